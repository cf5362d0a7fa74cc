import PyProof.Rows.All
import HandS.ForMost
import HandS.ForExc
import KE.KeyNested
import KE.DataEq
import HandS.Wide
import HandS.IsInst
import HandS.TupAny
import HandS.Deep
import HandS.Style
import HandS.Walk
import HandS.Dict
import HandS.DictComp
import KE.SortData
import PyProof.TupleOfSeq
import HandS.Conv
import HandS.Text
import KE.GoesEnum
import HandS.DictTup
import KE.KRevSl
import HandS.Star
import PySem.Challenge.RW_manypasts_k44_whole_runs_tie

set_option Elab.async false
set_option linter.all false
set_option maxRecDepth 100000
/-! Pl, part A: plain values, a store of what changes, what it is that a heap bears them; readings of plain functions. -/
namespace Pl
open PySem PySem.Spec PyProof.Rows L2

/-- a plain value; lst, dct: a list, a dict that nobody changes any more; loc: one that may be changed, by its place in the store -/
inductive PV where
  | non
  | bl (b : Bool)
  | int (i : Int)
  | str (c : List Nat)
  | tup (xs : List PV)
  | lst (xs : List PV)
  | dct (kvs : List (PV × PV))
  | loc (n : Nat)
  | ty (n : Nat)

/-- what stands in the store; fz: a walk holds the dict -/
inductive SO where
  | lst (xs : List PV)
  | dct (fz : Bool) (kvs : List (PV × PV))
  | ins (c : Nat) (fs : List (List Nat × PV))
abbrev Sto := List SO
abbrev En := List (Option PV)

inductive R (α : Type) where
  | stuck
  | ok (a : α) (s : Sto)
  | exc (c : Nat) (fs : List (List Nat × PV)) (s : Sto)
def R.bind {α β : Type} (r : R α) (k : α → Sto → R β) : R β := match r with
  | .stuck => .stuck
  | .ok a s => k a s
  | .exc c fs s => .exc c fs s

/-- a text of code points -/
def tx (c : List Nat) : Str := ⟨c.toArray⟩
theorem tx_inj {a b : List Nat} (h : tx a = tx b) : a = b := by
  have := congrArg (fun s => s.cps.toList) h
  simpa [tx] using this
theorem tx_len (a : List Nat) : (tx a).length = a.length := by simp [tx, Str.length]
theorem tx_of (s : Str) : tx s.cps.toList = s := by simp [tx]

mutual
/-- a plain value as a key -/
def PV.key : PV → Option NestedKey
  | .non => some .none
  | .bl b => some (.num (if b = true then 1 else 0))
  | .int i => some (.num i)
  | .str c => some (.text (tx c))
  | .tup xs => match PV.keys xs with
    | some ks => some (.tup ks)
    | none => none
  | .lst _ => none
  | .dct _ => none
  | .loc _ => none
  | .ty _ => none
def PV.keys : List PV → Option (List NestedKey)
  | [] => some []
  | x :: xs => match PV.key x, PV.keys xs with
    | some k, some ks => some (k :: ks)
    | _, _ => none
end

/-- a key that the model follows to its end -/
def PV.keyOf (x : PV) : Option NestedKey := match x.key with
  | some k => if k.depth ≤ 8 then some k else none
  | none => none

/-- what a program brings: its written part, the world, its classes -/
structure Ct where
  K : PySem.W.Frag
  w : World
  cls : Nat → Addr

/-- a dict's object: its entries by key's value, key, value -/
def DIs (w : World) (a : Addr) (es : List (V × NestedKey × V)) (h : Heap) : Prop :=
  (a == sysModules) = false ∧ es.length ≤ sizeLine ∧ (es.map (·.2.1)).Nodup ∧
  ∃ (o : Obj) (ents : Array DictEntry) (ep : Nat), h.get? a = some o ∧ o.ExactDict ∧ o.data = .dict ents ep ∧
    Paired (fun (p : V × NestedKey × V) (e : DictEntry) => RelV p.1 e.key ∧ e.hash = p.2.1.hash w ∧ RelV p.2.2 e.val) es ents.toList
def DN (w : World) (a : Addr) (es : List (V × NestedKey × V)) : HO := .ext (DIs w a es)

/-- the built-in classes that stand as values -/
def tyN : Nat → String
  | 0 => "int"
  | 1 => "bool"
  | 2 => "str"
  | 3 => "tuple"
  | 4 => "list"
  | 5 => "dict"
  | _ => "NoneType"
/-- the store's addresses; those that are hidden for a while -/
structure Rho where
  l : List Addr
  h : List Addr
instance : Membership Addr Rho := ⟨fun ρ a => a ∈ ρ.l ∨ a ∈ ρ.h⟩
section
variable (Γ : Ct) (ρ : Rho) (H : Hp)
def TupAt (a : Addr) (vs : List V) : Prop := (Rd H a (.tup vs) ∧ a ∉ ρ) ∨
  ∃ (o : Obj) (its : Array Value) (n : Nat), Γ.K.lookup a = some o ∧ o.cls = .type "tuple" ∧ o.data = .seq its n ∧ its.size ≤ sizeLine ∧ Vals vs its.toList
def LstAt (a : Addr) (vs : List V) : Prop := (Rd H a (.lst vs) ∧ a ∉ ρ) ∨
  ∃ (o : Obj) (its : Array Value) (n : Nat), Γ.K.lookup a = some o ∧ o.cls = .type "list" ∧ o.dict = none ∧ o.data = .seq its n ∧ its.size ≤ sizeLine ∧ Vals vs its.toList
mutual
inductive Rep : PV → V → Prop
  | non : Rep .non .non
  | bl (b : Bool) : Rep (.bl b) (.bl b)
  | int (i : Int) : Rep (.int i) (.int i)
  | str (c : List Nat) : Rep (.str c) (.str (tx c))
  | tup {a : Addr} {vs : List V} {xs : List PV} : TupAt Γ ρ H a vs → Reps xs vs → Rep (.tup xs) (.ref a)
  | lst {a : Addr} {vs : List V} {xs : List PV} : LstAt Γ ρ H a vs → Reps xs vs → Rep (.lst xs) (.ref a)
  | dct {a : Addr} {o : Obj} {es : List (V × NestedKey × V)} {kvs : List (PV × PV)} : Rd H a (.frz o (DN Γ.w a es)) → a ∉ ρ → RepD kvs es → Rep (.dct kvs) (.ref a)
  | loc {n : Nat} {a : Addr} : ρ.l[n]? = some a → Rep (.loc n) (.ref a)
  | ty (n : Nat) : Rep (.ty n) (.ty (tyN n))
inductive Reps : List PV → List V → Prop
  | nil : Reps [] []
  | cons {x : PV} {v : V} {xs : List PV} {vs : List V} : Rep x v → Reps xs vs → Reps (x :: xs) (v :: vs)
inductive RepD : List (PV × PV) → List (V × NestedKey × V) → Prop
  | nil : RepD [] []
  | cons {k x : PV} {v u : V} {nk : NestedKey} {kvs : List (PV × PV)} {es : List (V × NestedKey × V)} : Rep k v → k.keyOf = some nk → Rep x u → RepD kvs es → RepD ((k, x) :: kvs) ((v, nk, u) :: es)
end
/-- it stands there, held by a walk or not -/
def DR (H : Hp) (a : Addr) (u : HO) : Prop := Rd H a u ∨ ∃ o, Rd H a (.frz o u)
/-- an object of the store at an address -/
inductive ORep : SO → Addr → Prop
  | lst {a : Addr} {vs : List V} {xs : List PV} : H a = some (.lst vs) → Reps Γ ρ H xs vs → ORep (.lst xs) a
  | dct {a : Addr} {es : List (V × NestedKey × V)} {kvs : List (PV × PV)} : H a = some (DN Γ.w a es) → RepD Γ ρ H kvs es → ORep (.dct false kvs) a
  | frz {a : Addr} {o : Obj} {es : List (V × NestedKey × V)} {kvs : List (PV × PV)} : H a = some (.frz o (DN Γ.w a es)) → RepD Γ ρ H kvs es → ORep (.dct true kvs) a
  | ins {a dx : Addr} {c : Nat} {fs : List (List Nat × PV)} {us : List V} : H a = some (.ins (Γ.cls c) dx ((fs.map fun p => tx p.1).zip us)) → Reps Γ ρ H (fs.map (·.2)) us → ORep (.ins c fs) a
end

/-- the store stands in the heap -/
structure RSt (Γ : Ct) (ρ : Rho) (st : Sto) (H : Hp) : Prop where
  len : ρ.l.length = st.length
  nd : ρ.l.Nodup
  at' : ∀ (i : Nat) (o : SO) (a : Addr), st[i]? = some o → ρ.l[i]? = some a → ORep Γ ρ H o a
  hid : ∀ a ∈ ρ.h, (∃ o, H a = some o) ∧ a ∉ ρ.l
/-- later: the store may have grown, what is not in it stands as before -/
structure Ext (ρ : Rho) (H : Hp) (ρ' : Rho) (H' : Hp) : Prop where
  pre : ∃ t, ρ'.l = ρ.l ++ t
  hd : ρ'.h = ρ.h
  keep : ∀ a o, H a = some o → a ∉ ρ.l → H' a = some o ∧ a ∉ ρ'.l
theorem Ext.refl (ρ : Rho) (H : Hp) : Ext ρ H ρ H := ⟨⟨[], by simp⟩, rfl, fun _ _ h n => ⟨h, n⟩⟩
theorem Ext.trans {ρ ρ1 ρ2 : Rho} {H H1 H2 : Hp} (a : Ext ρ H ρ1 H1) (b : Ext ρ1 H1 ρ2 H2) : Ext ρ H ρ2 H2 := by
  obtain ⟨t, ht⟩ := a.pre
  obtain ⟨t', ht'⟩ := b.pre
  refine ⟨⟨t ++ t', by rw [ht', ht]; simp⟩, b.hd.trans a.hd, fun c o h n => ?_⟩
  obtain ⟨h1, n1⟩ := a.keep c o h n
  exact b.keep c o h1 n1
theorem Ext.get {ρ ρ' : Rho} {H H' : Hp} (e : Ext ρ H ρ' H') {n : Nat} {a : Addr} (h : ρ.l[n]? = some a) : ρ'.l[n]? = some a := by
  obtain ⟨t, ht⟩ := e.pre
  rw [ht, List.getElem?_append_left (List.getElem?_eq_some_iff.mp h).1]
  exact h
theorem Ext.rd {ρ ρ' : Rho} {H H' : Hp} (e : Ext ρ H ρ' H') {a : Addr} {u : HO} (h : Rd H a u) (n : a ∉ ρ) : Rd H' a u ∧ a ∉ ρ' := by
  have nl : a ∉ ρ.l := fun m => n (.inl m)
  have nh : a ∉ ρ.h := fun m => n (.inr m)
  have out : a ∉ ρ'.l → a ∉ ρ' := fun q m => m.elim q fun z => nh (by rw [← e.hd]; exact z)
  rcases h with h | ⟨o, h⟩
  · exact ⟨.inl (e.keep a _ h nl).1, out (e.keep a _ h nl).2⟩
  · exact ⟨.inr ⟨o, (e.keep a _ h nl).1⟩, out (e.keep a _ h nl).2⟩
section
variable {Γ : Ct} {ρ ρ' : Rho} {H H' : Hp}
/-- what a value leans on stays -/
structure Kp (ρ : Rho) (H : Hp) (ρ' : Rho) (H' : Hp) : Prop where
  get : ∀ (n : Nat) (a : Addr), ρ.l[n]? = some a → ρ'.l[n]? = some a
  rd : ∀ (a : Addr) (u : HO), Rd H a u → a ∉ ρ → Rd H' a u ∧ a ∉ ρ'
theorem Kp.refl (ρ : Rho) (H : Hp) : Kp ρ H ρ H := ⟨fun _ _ h => h, fun _ _ h n => ⟨h, n⟩⟩
theorem Kp.trans {ρ1 : Rho} {H1 : Hp} (a : Kp ρ H ρ1 H1) (b : Kp ρ1 H1 ρ' H') : Kp ρ H ρ' H' := ⟨fun n x h => b.get n x (a.get n x h), fun x u h n => let ⟨h1, n1⟩ := a.rd x u h n; b.rd x u h1 n1⟩
theorem Ext.kp (e : Ext ρ H ρ' H') : Kp ρ H ρ' H' := ⟨fun _ _ h => e.get h, fun _ _ h n => e.rd h n⟩
theorem TupAt.kp {a : Addr} {vs : List V} (e : Kp ρ H ρ' H') (h : TupAt Γ ρ H a vs) : TupAt Γ ρ' H' a vs := by
  rcases h with ⟨h, n⟩ | h
  · exact .inl (e.rd a _ h n)
  · exact .inr h
theorem LstAt.kp {a : Addr} {vs : List V} (e : Kp ρ H ρ' H') (h : LstAt Γ ρ H a vs) : LstAt Γ ρ' H' a vs := by
  rcases h with ⟨h, n⟩ | h
  · exact .inl (e.rd a _ h n)
  · exact .inr h
mutual
theorem Rep.kp (e : Kp ρ H ρ' H') : ∀ {x : PV} {v : V}, Rep Γ ρ H x v → Rep Γ ρ' H' x v
  | _, _, .non => .non
  | _, _, .bl b => .bl b
  | _, _, .int i => .int i
  | _, _, .str c => .str c
  | _, _, .tup h r => .tup (h.kp e) (Reps.kp e r)
  | _, _, .lst h r => .lst (h.kp e) (Reps.kp e r)
  | _, _, .dct h n r => .dct (e.rd _ _ h n).1 (e.rd _ _ h n).2 (RepD.kp e r)
  | _, _, .loc h => .loc (e.get _ _ h)
  | _, _, .ty n => .ty n
theorem Reps.kp (e : Kp ρ H ρ' H') : ∀ {x : List PV} {v : List V}, Reps Γ ρ H x v → Reps Γ ρ' H' x v
  | _, _, .nil => .nil
  | _, _, .cons h r => .cons (Rep.kp e h) (Reps.kp e r)
theorem RepD.kp (e : Kp ρ H ρ' H') : ∀ {x : List (PV × PV)} {v : List (V × NestedKey × V)}, RepD Γ ρ H x v → RepD Γ ρ' H' x v
  | _, _, .nil => .nil
  | _, _, .cons h k r t => .cons (Rep.kp e h) k (Rep.kp e r) (RepD.kp e t)
end
end

/-- the slots -/
def REn (Γ : Ct) (ρ : Rho) (H : Hp) (η : En) (σ : L2.St) : Prop := η.length = σ.length ∧ ∀ (i : Nat) (x : PV), η[i]? = some (some x) → ∃ v, σ[i]? = some (some v) ∧ Rep Γ ρ H x v
theorem REn.kp {Γ : Ct} {ρ ρ' : Rho} {H H' : Hp} {η : En} {σ : L2.St} (e : Kp ρ H ρ' H') (h : REn Γ ρ H η σ) : REn Γ ρ' H' η σ := ⟨h.1, fun i x hi => let ⟨v, a, b⟩ := h.2 i x hi; ⟨v, a, b.kp e⟩⟩

/-- what an end is worth -/
def Po {α β : Type} (Γ : Ct) (ρ : Rho) (H : Hp) (rep : Rho → Hp → α → β → Prop) (r : R α) (Q : β → Hp → Prop) : Prop := match r with
  | .stuck => False
  | .ok a st => ∀ ρ' H' b, Ext ρ H ρ' H' → RSt Γ ρ' st H' → rep ρ' H' a b → Q b H'
  | .exc _ _ _ => False
theorem Po.ext {α β : Type} {Γ : Ct} {ρ ρ1 : Rho} {H H1 : Hp} {rep : Rho → Hp → α → β → Prop} {r : R α} {Q : β → Hp → Prop} (e : Ext ρ H ρ1 H1) (h : Po Γ ρ H rep r Q) : Po Γ ρ1 H1 rep r Q := by
  cases r with
  | stuck => exact h
  | ok a st => exact fun ρ' H' b e' s' r' => h ρ' H' b (e.trans e') s' r'
  | exc c fs st => exact h

abbrev EF := En → Sto → R PV
/-- the reading of a plain function -/
def TEf (Γ : Ct) (f : EF) : TE := fun σ H Q => ∃ ρ η st, RSt Γ ρ st H ∧ REn Γ ρ H η σ ∧ Po Γ ρ H (Rep Γ) (f η st) Q
abbrev AF := En → Sto → R (List PV)
def TAf (Γ : Ct) (f : AF) : TA := fun σ H Q => ∃ ρ η st, RSt Γ ρ st H ∧ REn Γ ρ H η σ ∧ Po Γ ρ H (Reps Γ) (f η st) Q

/-- THE STEP: one part's end, then the rest -/
theorem po_bind {α α' β γ : Type} {Γ : Ct} {ρ : Rho} {H : Hp} {rep : Rho → Hp → α → β → Prop} {rep' : Rho → Hp → α' → γ → Prop} {r : R α} {k : α → Sto → R α'} {Q : γ → Hp → Prop} (h : Po Γ ρ H rep' (r.bind k) Q) :
    Po Γ ρ H rep r (fun b H1 => ∃ ρ1 a st1, Ext ρ H ρ1 H1 ∧ RSt Γ ρ1 st1 H1 ∧ rep ρ1 H1 a b ∧ Po Γ ρ1 H1 rep' (k a st1) Q) := by
  cases r with
  | stuck => exact h
  | ok a st => exact fun ρ' H' b e s q => ⟨ρ', a, st, e, s, q, Po.ext e h⟩
  | exc c fs st => exact h
end Pl

set_option Elab.async false
set_option linter.all false
set_option maxRecDepth 100000
/-! Pl, part B: expressions. -/
namespace Pl
open PySem PySem.Spec PyProof.Rows L2

/-- lengths are kept below this -/
def LIM : Nat := 100000
theorem lim_le {n : Nat} (h : n ≤ LIM) : n ≤ sizeLine := Nat.le_trans h (by rw [sizeLine_eq]; decide)
theorem lim_lt {n : Nat} (h : n ≤ LIM) : n < sizeLine := Nat.lt_of_le_of_lt h (by rw [sizeLine_eq]; decide)

section
variable {Γ : Ct} {ρ ρ' : Rho} {H H' : Hp} {st : Sto}
theorem RSt.has (s : RSt Γ ρ st H) {a : Addr} (h : a ∈ ρ) : ∃ o, H a = some o := by
  rcases h with h | h
  · obtain ⟨i, hi⟩ := List.mem_iff_getElem?.mp h
    have hl : i < st.length := by rw [← s.len]; exact (List.getElem?_eq_some_iff.mp hi).1
    have q := s.at' i st[i] a (List.getElem?_eq_getElem hl) hi
    generalize st[i] = o at q
    cases q with
    | lst e _ => exact ⟨_, e⟩
    | dct e _ => exact ⟨_, e⟩
    | frz e _ => exact ⟨_, e⟩
    | ins e _ => exact ⟨_, e⟩
  · exact (s.hid a h).1
theorem RSt.notin (s : RSt Γ ρ st H) {a : Addr} (h : H a = none) : a ∉ ρ := fun m => by
  obtain ⟨o, e⟩ := s.has m
  rw [h] at e; cases e
def Rho.add (ρ : Rho) (p : Addr) : Rho := ⟨ρ.l ++ [p], ρ.h⟩
/-- a new object that nobody changes -/
theorem ext_new (s : RSt Γ ρ st H) {p : Addr} {o : HO} (h : H p = none) : Ext ρ H ρ (upd H p o) :=
  ⟨⟨[], by simp⟩, rfl, fun a u e n => ⟨by rw [upd_ne (ne_of_none e h)]; exact e, n⟩⟩
theorem ORep.kp {o : SO} {a : Addr} (k : Kp ρ H ρ' H') (e : H' a = H a) (h : ORep Γ ρ H o a) : ORep Γ ρ' H' o a := by
  cases h with
  | lst e' r => exact .lst (e.trans e') (r.kp k)
  | dct e' r => exact .dct (e.trans e') (r.kp k)
  | frz e' r => exact .frz (e.trans e') (r.kp k)
  | ins e' r => exact .ins (e.trans e') (r.kp k)
theorem rst_new (s : RSt Γ ρ st H) {p : Addr} {o : HO} (h : H p = none) : RSt Γ ρ st (upd H p o) :=
  ⟨s.len, s.nd, fun i ob a hi ha => by
    have hne : a ≠ p := fun z => s.notin h (.inl (z ▸ List.mem_of_getElem? ha))
    exact (s.at' i ob a hi ha).kp (ext_new s h).kp (upd_ne hne), fun a ha => by
    obtain ⟨⟨u, e⟩, n⟩ := s.hid a ha
    exact ⟨⟨u, by rw [upd_ne (ne_of_none e h)]; exact e⟩, n⟩⟩
/-- a new object in the store -/
theorem ext_add (s : RSt Γ ρ st H) {p : Addr} {o : HO} (h : H p = none) : Ext ρ H (ρ.add p) (upd H p o) :=
  ⟨⟨[p], rfl⟩, rfl, fun a u e n => ⟨by rw [upd_ne (ne_of_none e h)]; exact e, fun m => by
    rcases List.mem_append.mp m with m | m
    · exact n m
    · rw [List.mem_singleton] at m
      subst m
      rw [h] at e; cases e⟩⟩
theorem rst_add (s : RSt Γ ρ st H) {p : Addr} {o : HO} {ob : SO} (h : H p = none) (r : ORep Γ (ρ.add p) (upd H p o) ob p) : RSt Γ (ρ.add p) (st ++ [ob]) (upd H p o) := by
  have hp := s.notin h
  refine ⟨by simp [Rho.add, s.len], ?_, fun i ob' a hi ha => ?_, fun a ha => ?_⟩
  · show (ρ.l ++ [p]).Nodup
    rw [List.nodup_append]
    exact ⟨s.nd, by simp, fun a ha b hb => by rw [List.mem_singleton] at hb; subst hb; exact fun z => hp (.inl (z ▸ ha))⟩
  · have ha : (ρ.l ++ [p])[i]? = some a := ha
    by_cases hl : i < ρ.l.length
    · rw [List.getElem?_append_left hl] at ha
      rw [List.getElem?_append_left (by rw [← s.len]; exact hl)] at hi
      have hne : a ≠ p := fun z => hp (.inl (z ▸ List.mem_of_getElem? ha))
      exact (s.at' i ob' a hi ha).kp (ext_add s h).kp (upd_ne hne)
    · have e1 : i = ρ.l.length := by
        have := (List.getElem?_eq_some_iff.mp ha).1
        simp at this; omega
      subst e1
      rw [List.getElem?_append_right (Nat.le_refl _)] at ha
      rw [s.len, List.getElem?_append_right (Nat.le_refl _)] at hi
      simp at ha hi
      subst ha; subst hi
      exact r
  · obtain ⟨⟨u, e⟩, n⟩ := s.hid a ha
    refine ⟨⟨u, by rw [upd_ne (ne_of_none e h)]; exact e⟩, fun m => ?_⟩
    rcases List.mem_append.mp m with m | m
    · exact n m
    · rw [List.mem_singleton] at m
      subst m
      rw [h] at e; cases e
theorem loc_add (s : RSt Γ ρ st H) {p : Addr} : Rep Γ (ρ.add p) H' (.loc st.length) (.ref p) := .loc (by show (ρ.l ++ [p])[st.length]? = _; rw [← s.len, List.getElem?_append_right (Nat.le_refl _)]; simp)
theorem Reps.length : ∀ {xs : List PV} {vs : List V}, Reps Γ ρ H xs vs → xs.length = vs.length
  | _, _, .nil => rfl
  | _, _, .cons _ r => by rw [List.length_cons, List.length_cons, Reps.length r]
theorem Reps.append : ∀ {xs ys : List PV} {vs ws : List V}, Reps Γ ρ H xs vs → Reps Γ ρ H ys ws → Reps Γ ρ H (xs ++ ys) (vs ++ ws)
  | _, _, _, _, .nil, r => r
  | _, _, _, _, .cons h t, r => .cons h (Reps.append t r)
theorem Reps.get : ∀ {xs : List PV} {vs : List V} {i : Nat} {x : PV}, Reps Γ ρ H xs vs → xs[i]? = some x → ∃ v, vs[i]? = some v ∧ Rep Γ ρ H x v
  | _, _, _, _, .nil, h => by simp at h
  | _, _, 0, _, .cons h _, e => by simp at e; subst e; exact ⟨_, rfl, h⟩
  | _, _, i + 1, x, .cons _ t, e => by
    obtain ⟨v, a, b⟩ := Reps.get (i := i) (x := x) t (by simpa using e)
    exact ⟨v, by simpa using a, b⟩
theorem Reps.get' : ∀ {xs : List PV} {vs : List V} {i : Nat} {v : V}, Reps Γ ρ H xs vs → vs[i]? = some v → ∃ x, xs[i]? = some x ∧ Rep Γ ρ H x v
  | _, _, _, _, .nil, h => by simp at h
  | _, _, 0, _, .cons h _, e => by simp at e; subst e; exact ⟨_, rfl, h⟩
  | _, _, i + 1, v, .cons _ t, e => by
    obtain ⟨x, a, b⟩ := Reps.get' (i := i) (v := v) t (by simpa using e)
    exact ⟨x, by simpa using a, b⟩
theorem Reps.take : ∀ {xs : List PV} {vs : List V} (n : Nat), Reps Γ ρ H xs vs → Reps Γ ρ H (xs.take n) (vs.take n)
  | _, _, 0, _ => .nil
  | _, _, _ + 1, .nil => .nil
  | _, _, n + 1, .cons h t => .cons h (Reps.take n t)
theorem Reps.drop : ∀ {xs : List PV} {vs : List V} (n : Nat), Reps Γ ρ H xs vs → Reps Γ ρ H (xs.drop n) (vs.drop n)
  | _, _, 0, r => r
  | _, _, _ + 1, .nil => .nil
  | _, _, n + 1, .cons _ t => Reps.drop n t
theorem Reps.set {x : PV} {v : V} (h : Rep Γ ρ H x v) : ∀ {xs : List PV} {vs : List V} (n : Nat), Reps Γ ρ H xs vs → Reps Γ ρ H (xs.set n x) (vs.set n v)
  | _, _, _, .nil => .nil
  | _, _, 0, .cons _ t => .cons h t
  | _, _, n + 1, .cons q t => .cons q (Reps.set h n t)
theorem Reps.reverse : ∀ {xs : List PV} {vs : List V}, Reps Γ ρ H xs vs → Reps Γ ρ H xs.reverse vs.reverse
  | _, _, .nil => .nil
  | _, _, .cons h t => by
    rw [List.reverse_cons, List.reverse_cons]
    exact Reps.append (Reps.reverse t) (.cons h .nil)
theorem TupAt.sq {a : Addr} {vs : List V} (h : TupAt Γ ρ H a vs) : SqT Γ.K H a vs := h.elim (fun x => .inl x.1) .inr
theorem LstAt.sq {a : Addr} {vs : List V} (h : LstAt Γ ρ H a vs) : SqL Γ.K H a vs := h.elim (fun x => .inl x.1) .inr
/-- a new tuple, a new list that nobody changes -/
theorem TupAt.new (s : RSt Γ ρ st H) {p : Addr} {vs : List V} (h : H p = none) : TupAt Γ ρ (upd H p (.tup vs)) p vs := .inl ⟨.inl upd_same, s.notin h⟩
theorem LstAt.new (s : RSt Γ ρ st H) {p : Addr} {vs : List V} (h : H p = none) : LstAt Γ ρ (upd H p (.lst vs)) p vs := .inl ⟨.inl upd_same, s.notin h⟩
end

section
variable {X : Cx} {Γ : Ct} {e e' : Expr} {pos : Pos}
theorem pe_of {t t' : TE} (h : PE X e t) (hi : ∀ σ H Q, t' σ H Q → t σ H Q) : PE X e t' := ⟨fun pins s σ H Q I q => h.run pins s σ H Q I (hi σ H Q q)⟩
theorem pt_of {t t' : TT} (h : PT X e t) (hi : ∀ σ H Q, t' σ H Q → t σ H Q) : PT X e t' := ⟨fun pins s σ H Q I q => h.run pins s σ H Q I (hi σ H Q q)⟩
theorem pa_of {es : List Expr} {t t' : TA} (h : PA X es t) (hi : ∀ σ H Q, t' σ H Q → t σ H Q) : PA X es t' := ⟨fun pos pins s σ H Q I q => h.run pos pins s σ H Q I (hi σ H Q q)⟩
theorem po_ok {α β : Type} {ρ : Rho} {H : Hp} {rep : Rho → Hp → α → β → Prop} {a : α} {b : β} {st : Sto} {Q : β → Hp → Prop} (h : Po Γ ρ H rep (.ok a st) Q) (s : RSt Γ ρ st H) (r : rep ρ H a b) : Q b H := h ρ H b (Ext.refl ρ H) s r

/-- a name, a constant -/
def eVar (i : Nat) : EF := fun η st => match η[i]? with
  | some (some v) => .ok v st
  | _ => .stuck
def eC (v : PV) : EF := fun _ st => .ok v st
theorem ok_var {i : Nat} (h : PE X e (tVar i)) : PE X e (TEf Γ (eVar i)) := pe_of h fun σ H Q ⟨ρ, η, st, s, n, p⟩ => by
  unfold eVar at p
  cases hi : η[i]? with
  | none => rw [hi] at p; exact p.elim
  | some o =>
    cases o with
    | none => rw [hi] at p; exact p.elim
    | some v =>
      rw [hi] at p
      obtain ⟨u, hu, r⟩ := n.2 i v hi
      exact ⟨u, hu, po_ok p s r⟩
theorem ok_c {v : PV} {u : V} (h : PE X e (tC u)) (r : ∀ ρ H, Rep Γ ρ H v u) : PE X e (TEf Γ (eC v)) := pe_of h fun σ H Q ⟨ρ, η, st, s, n, p⟩ => po_ok p s (r ρ H)
theorem ok_int {i : Int} {j : Nat} : PE X (.Constant (.int i) j pos) (TEf Γ (eC (.int i))) := ok_c pe_int fun _ _ => .int i
theorem ok_bl {b : Bool} {j : Nat} : PE X (.Constant (.bool b) j pos) (TEf Γ (eC (.bl b))) := ok_c pe_bl fun _ _ => .bl b
theorem ok_non {j : Nat} : PE X (.Constant .none j pos) (TEf Γ (eC .non)) := ok_c pe_non fun _ _ => .non
theorem rep_str {ρ : Rho} {H : Hp} {x : Str} {c : List Nat} (h : x = tx c) : Rep Γ ρ H (.str c) (.str x) := h ▸ .str c
theorem ok_str {x : Str} {j : Nat} {c : List Nat} (h : x = tx c) : PE X (.Constant (.str x) j pos) (TEf Γ (eC (.str c))) := ok_c pe_str fun _ _ => rep_str h

/-! ### two parts -/
def eB (o : PV → PV → Sto → R PV) (f g : EF) : EF := fun η st => (f η st).bind fun a s => (g η s).bind fun b s' => o a b s'
def eU (o : PV → Sto → R PV) (f : EF) : EF := fun η st => (f η st).bind o
def RO (Γ : Ct) (o : PV → PV → Sto → R PV) : R2 := fun x y H Q => ∃ ρ st a b, RSt Γ ρ st H ∧ Rep Γ ρ H a x ∧ Rep Γ ρ H b y ∧ Po Γ ρ H (Rep Γ) (o a b st) Q
def RU (Γ : Ct) (o : PV → Sto → R PV) : V → Hp → VK → Prop := fun x H Q => ∃ ρ st a, RSt Γ ρ st H ∧ Rep Γ ρ H a x ∧ Po Γ ρ H (Rep Γ) (o a st) Q
def RC (Γ : Ct) (o : List PV → Sto → R PV) : List V → Hp → VK → Prop := fun vs H Q => ∃ ρ st as, RSt Γ ρ st H ∧ Reps Γ ρ H as vs ∧ Po Γ ρ H (Rep Γ) (o as st) Q
theorem te_mono {f : EF} {σ : L2.St} {H : Hp} {Q Q' : VK} (h : TEf Γ f σ H Q) (hq : ∀ x H1, Q x H1 → Q' x H1) : TEf Γ f σ H Q' := by
  obtain ⟨ρ, η, st, s, n, p⟩ := h
  refine ⟨ρ, η, st, s, n, ?_⟩
  revert p
  cases f η st with
  | stuck => exact fun p => p
  | exc _ _ _ => exact fun p => p
  | ok a st1 => exact fun p ρ1 H1 x e s r => hq _ _ (p ρ1 H1 x e s r)
theorem ta_mono {f : AF} {σ : L2.St} {H : Hp} {Q Q' : List V → Hp → Prop} (h : TAf Γ f σ H Q) (hq : ∀ x H1, Q x H1 → Q' x H1) : TAf Γ f σ H Q' := by
  obtain ⟨ρ, η, st, s, n, p⟩ := h
  refine ⟨ρ, η, st, s, n, ?_⟩
  revert p
  cases f η st with
  | stuck => exact fun p => p
  | exc _ _ _ => exact fun p => p
  | ok a st1 => exact fun p ρ1 H1 x e s r => hq _ _ (p ρ1 H1 x e s r)
/-- a part, then the rest -/
theorem te_bind {α β : Type} {f : EF} {k : PV → Sto → R α} {rep : Rho → Hp → α → β → Prop} {ρ : Rho} {η : En} {st : Sto} {σ : L2.St} {H : Hp} {Q : β → Hp → Prop} (p : Po Γ ρ H rep ((f η st).bind k) Q) (s : RSt Γ ρ st H) (n : REn Γ ρ H η σ) :
    TEf Γ f σ H (fun x H1 => ∃ ρ1 a st1, Ext ρ H ρ1 H1 ∧ RSt Γ ρ1 st1 H1 ∧ REn Γ ρ1 H1 η σ ∧ Rep Γ ρ1 H1 a x ∧ Po Γ ρ1 H1 rep (k a st1) Q) := by
  refine ⟨ρ, η, st, s, n, ?_⟩
  revert p
  cases f η st with
  | stuck => exact fun p => p
  | exc _ _ _ => exact fun p => p
  | ok a st1 => exact fun p ρ1 H1 x e s r => ⟨ρ1, a, st1, e, s, n.kp e.kp, r, Po.ext e p⟩
theorem ta_bind {α β : Type} {f : AF} {k : List PV → Sto → R α} {rep : Rho → Hp → α → β → Prop} {ρ : Rho} {η : En} {st : Sto} {σ : L2.St} {H : Hp} {Q : β → Hp → Prop} (p : Po Γ ρ H rep ((f η st).bind k) Q) (s : RSt Γ ρ st H) (n : REn Γ ρ H η σ) :
    TAf Γ f σ H (fun x H1 => ∃ ρ1 a st1, Ext ρ H ρ1 H1 ∧ RSt Γ ρ1 st1 H1 ∧ REn Γ ρ1 H1 η σ ∧ Reps Γ ρ1 H1 a x ∧ Po Γ ρ1 H1 rep (k a st1) Q) := by
  refine ⟨ρ, η, st, s, n, ?_⟩
  revert p
  cases f η st with
  | stuck => exact fun p => p
  | exc _ _ _ => exact fun p => p
  | ok a st1 => exact fun p ρ1 H1 x e s r => ⟨ρ1, a, st1, e, s, n.kp e.kp, r, Po.ext e p⟩
theorem te_op {o : PV → PV → Sto → R PV} {f g : EF} {σ : L2.St} {H : Hp} {Q : VK} (h : TEf Γ (eB o f g) σ H Q) : tOp (RO Γ o) (TEf Γ f) (TEf Γ g) σ H Q := by
  obtain ⟨ρ, η, st, s, n, p⟩ := h
  exact te_mono (te_bind p s n) fun x H1 ⟨ρ1, a, st1, e1, s1, n1, r1, p1⟩ => te_mono (te_bind p1 s1 n1) fun y H2 ⟨ρ2, b, st2, e2, s2, n2, r2, p2⟩ => ⟨ρ2, st2, a, b, s2, r1.kp e2.kp, r2, p2⟩
theorem te_un {o : PV → Sto → R PV} {f : EF} {σ : L2.St} {H : Hp} {Q : VK} (h : TEf Γ (eU o f) σ H Q) : tUn (RU Γ o) (TEf Γ f) σ H Q := by
  obtain ⟨ρ, η, st, s, n, p⟩ := h
  exact te_mono (te_bind p s n) fun x H1 ⟨ρ1, a, st1, e1, s1, n1, r1, p1⟩ => ⟨ρ1, st1, a, s1, r1, p1⟩
theorem ok_bin {a b : Expr} {op : Operator} {o : PV → PV → Sto → R PV} {f g : EF} (ho : OpR X (binaryOp op) (RO Γ o)) (ha : PE X a (TEf Γ f)) (hb : PE X b (TEf Γ g)) : PE X (.BinOp a op b pos) (TEf Γ (eB o f g)) := pe_of (pe_op ho ha hb) fun _ _ _ => te_op
theorem ok_un {a : Expr} {op : UnaryOp} {o : PV → Sto → R PV} {f : EF} (ho : UnR X (unaryOp op) (RU Γ o)) (ha : PE X a (TEf Γ f)) : PE X (.UnaryOp op a pos) (TEf Γ (eU o f)) := pe_of (pe_un ho ha) fun _ _ _ => te_un
theorem ok_cmp {a b : Expr} {op : CmpOp} {o : PV → PV → Sto → R PV} {f g : EF} (ho : OpR X (compareOp op) (RO Γ o)) (ha : PE X a (TEf Γ f)) (hb : PE X b (TEf Γ g)) (hm : behindInMarks op b = false) : PE X (.Compare a [op] [b] pos) (TEf Γ (eB o f g)) := pe_of (pe_cmpR ho ha hb hm) fun _ _ _ => te_op

/-! ### argument lists, displays -/
def aNil : AF := fun _ st => .ok [] st
def aCons (f : EF) (g : AF) : AF := fun η st => (f η st).bind fun a s => (g η s).bind fun as s' => .ok (a :: as) s'
theorem oka_nil : PA X [] (TAf Γ aNil) := pa_of pa_nil fun σ H Q ⟨ρ, η, st, s, n, p⟩ => po_ok p s .nil
theorem oka_cons {es : List Expr} {f : EF} {g : AF} (ha : PE X e (TEf Γ f)) (hr : PA X es (TAf Γ g)) (hs : starEach (e :: es) X.env = (false, eval e X.env) :: starEach es X.env := by rfl) : PA X (e :: es) (TAf Γ (aCons f g)) :=
  pa_of (pa_cons ha hr hs) fun σ H Q ⟨ρ, η, st, s, n, p⟩ =>
    te_mono (te_bind p s n) fun x H1 ⟨ρ1, a, st1, e1, s1, n1, r1, p1⟩ => ta_mono (ta_bind p1 s1 n1) fun xs H2 ⟨ρ2, b, st2, e2, s2, n2, r2, p2⟩ => po_ok p2 s2 (.cons (r1.kp e2.kp) r2)
def eA (o : List PV → Sto → R PV) (f : AF) : EF := fun η st => (f η st).bind o
theorem te_call {o : List PV → Sto → R PV} {f : AF} {σ : L2.St} {H : Hp} {Q : VK} (h : TEf Γ (eA o f) σ H Q) : TAf Γ f σ H (fun vs H1 => RC Γ o vs H1 Q) := by
  obtain ⟨ρ, η, st, s, n, p⟩ := h
  exact ta_mono (ta_bind p s n) fun x H1 ⟨ρ1, a, st1, e1, s1, n1, r1, p1⟩ => ⟨ρ1, st1, a, s1, r1, p1⟩
theorem ok_call {o : List PV → Sto → R PV} {f : AF} (h : PE X e (tCB (RC Γ o) (TAf Γ f))) : PE X e (TEf Γ (eA o f)) := pe_of h fun _ _ _ h => te_call h
def mkTup (xs : List PV) (st : Sto) : R PV := if xs.length ≤ LIM then .ok (.tup xs) st else .stuck
def mkLst (xs : List PV) (st : Sto) : R PV := if xs.length ≤ LIM then .ok (.lst xs) st else .stuck
def mkNew (xs : List PV) (st : Sto) : R PV := if xs.length ≤ LIM then .ok (.loc st.length) (st ++ [.lst xs]) else .stuck
theorem ok_tup {es : List Expr} {f : AF} {x1 : Nat} (h : PA X es (TAf Γ f)) : PE X (.Tuple es x1 pos) (TEf Γ (eA mkTup f)) := pe_of (pe_tup h) fun σ H Q q => by
  refine ta_mono (te_call q) fun vs H1 ⟨ρ, st, as, s, r, p⟩ => ?_
  unfold mkTup at p
  by_cases hl : as.length ≤ LIM
  · rw [if_pos hl] at p
    refine ⟨by rw [← r.length]; exact lim_le hl, fun q hq => p ρ _ _ (ext_new s hq) (rst_new s hq) (.tup (TupAt.new s hq) (r.kp (ext_new s hq).kp))⟩
  · rw [if_neg hl] at p; exact p.elim
theorem ok_lst {es : List Expr} {f : AF} (h : PA X es (TAf Γ f)) : PE X (.List es pos) (TEf Γ (eA mkLst f)) := pe_of (pe_lst h) fun σ H Q q => by
  refine ta_mono (te_call q) fun vs H1 ⟨ρ, st, as, s, r, p⟩ => ?_
  unfold mkLst at p
  by_cases hl : as.length ≤ LIM
  · rw [if_pos hl] at p
    refine ⟨by rw [← r.length]; exact lim_le hl, fun q hq => p ρ _ _ (ext_new s hq) (rst_new s hq) (.lst (LstAt.new s hq) (r.kp (ext_new s hq).kp))⟩
  · rw [if_neg hl] at p; exact p.elim
theorem ok_new {es : List Expr} {f : AF} (h : PA X es (TAf Γ f)) : PE X (.List es pos) (TEf Γ (eA mkNew f)) := pe_of (pe_lst h) fun σ H Q q => by
  refine ta_mono (te_call q) fun vs H1 ⟨ρ, st, as, s, r, p⟩ => ?_
  unfold mkNew at p
  by_cases hl : as.length ≤ LIM
  · rw [if_pos hl] at p
    refine ⟨by rw [← r.length]; exact lim_le hl, fun q hq => p _ _ _ (ext_add s hq) (rst_add s hq (.lst upd_same (r.kp (ext_add s hq).kp))) (loc_add s)⟩
  · rw [if_neg hl] at p; exact p.elim

/-! ### tests -/
abbrev BF := En → Sto → R Bool
abbrev rB : Rho → Hp → Bool → Bool → Prop := fun _ _ a b => a = b
def TTf (Γ : Ct) (f : BF) : TT := fun σ H Q => ∃ ρ η st, RSt Γ ρ st H ∧ REn Γ ρ H η σ ∧ Po Γ ρ H rB (f η st) Q
theorem tt_mono {f : BF} {σ : L2.St} {H : Hp} {Q Q' : Bool → Hp → Prop} (h : TTf Γ f σ H Q) (hq : ∀ x H1, Q x H1 → Q' x H1) : TTf Γ f σ H Q' := by
  obtain ⟨ρ, η, st, s, n, p⟩ := h
  refine ⟨ρ, η, st, s, n, ?_⟩
  revert p
  cases f η st with
  | stuck => exact fun p => p
  | exc _ _ _ => exact fun p => p
  | ok a st1 => exact fun p ρ1 H1 x e s r => hq _ _ (p ρ1 H1 x e s r)
theorem tt_bind {α β : Type} {f : BF} {k : Bool → Sto → R α} {rep : Rho → Hp → α → β → Prop} {ρ : Rho} {η : En} {st : Sto} {σ : L2.St} {H : Hp} {Q : β → Hp → Prop} (p : Po Γ ρ H rep ((f η st).bind k) Q) (s : RSt Γ ρ st H) (n : REn Γ ρ H η σ) :
    TTf Γ f σ H (fun x H1 => ∃ ρ1 st1, Ext ρ H ρ1 H1 ∧ RSt Γ ρ1 st1 H1 ∧ REn Γ ρ1 H1 η σ ∧ Po Γ ρ1 H1 rep (k x st1) Q) := by
  refine ⟨ρ, η, st, s, n, ?_⟩
  revert p
  cases f η st with
  | stuck => exact fun p => p
  | exc _ _ _ => exact fun p => p
  | ok a st1 => exact fun p ρ1 H1 x e s r => by cases r; exact ⟨ρ1, st1, e, s, n.kp e.kp, Po.ext e p⟩
/-- a value that is a bool -/
def bV (f : EF) : BF := fun η st => (f η st).bind fun v s => match v with
  | .bl b => .ok b s
  | _ => .stuck
theorem te_bV {f : EF} {σ : L2.St} {H : Hp} {Q : Bool → Hp → Prop} (h : TTf Γ (bV f) σ H Q) : TEf Γ f σ H (fun x H1 => ∃ c, x = .bl c ∧ Q c H1) := by
  obtain ⟨ρ, η, st, s, n, p⟩ := h
  refine te_mono (te_bind p s n) fun x H1 ⟨ρ1, a, st1, e1, s1, n1, r1, p1⟩ => ?_
  cases a with
  | bl b => cases r1; exact ⟨b, rfl, po_ok p1 s1 rfl⟩
  | _ => exact p1.elim
theorem okt_val {f : EF} (h : PE X e (TEf Γ f)) (he : ∀ whole, isTrue e X.env whole = (do let v ← whole; standAt e.pos; holding [v] (truthy v)) := by intro _; rfl) : PT X e (TTf Γ (bV f)) := pt_of (pt_val h he) fun σ H Q q => te_bV q
theorem okt_cmp {a b : Expr} {op : CmpOp} {o : PV → PV → Sto → R PV} {f g : EF} (ho : OpR X (compareOp op) (RO Γ o)) (ha : PE X a (TEf Γ f)) (hb : PE X b (TEf Γ g)) (hm : behindInMarks op b = false) : PT X (.Compare a [op] [b] pos) (TTf Γ (bV (eB o f g))) :=
  pt_of (pt_cmpR ho ha hb hm) fun σ H Q q => te_op (te_bV q)
def bNot (f : BF) : BF := fun η st => (f η st).bind fun b s => .ok (!b) s
def bAnd (f g : BF) : BF := fun η st => (f η st).bind fun b s => match b with
  | true => g η s
  | false => .ok false s
def bOr (f g : BF) : BF := fun η st => (f η st).bind fun b s => match b with
  | true => .ok true s
  | false => g η s
theorem okt_not {f : BF} (h : PT X e (TTf Γ f)) : PT X (.UnaryOp .Not e pos) (TTf Γ (bNot f)) := pt_of (pt_not h) fun σ H Q ⟨ρ, η, st, s, n, p⟩ =>
  tt_mono (tt_bind p s n) fun b H1 ⟨ρ1, st1, e1, s1, n1, p1⟩ => po_ok p1 s1 rfl
theorem okw_and1 {f : BF} (h : PT X e (TTf Γ f)) : PW X (.BoolOp .And [e] pos) (TTf Γ f) := pw_and1 h
theorem okw_or1 {f : BF} (h : PT X e (TTf Γ f)) : PW X (.BoolOp .Or [e] pos) (TTf Γ f) := pw_or1 h
theorem pw_of {t t' : TT} (h : PW X e t) (hi : ∀ σ H Q, t' σ H Q → t σ H Q) : PW X e t' := ⟨fun wh pins s σ H Q I q => h.run wh pins s σ H Q I (hi σ H Q q)⟩
theorem okw_and {a b : Expr} {rest : List Expr} {f g : BF} (ha : PT X a (TTf Γ f)) (hb : PW X (.BoolOp .And (b :: rest) pos) (TTf Γ g)) : PW X (.BoolOp .And (a :: b :: rest) pos) (TTf Γ (bAnd f g)) := pw_of (pw_and ha hb) fun σ H Q ⟨ρ, η, st, s, n, p⟩ =>
  tt_mono (tt_bind p s n) fun c H1 ⟨ρ1, st1, e1, s1, n1, p1⟩ => by
    cases c with
    | true => exact iteT ⟨ρ1, η, st1, s1, n1, p1⟩
    | false => exact iteF (po_ok p1 s1 rfl)
theorem okw_or {a b : Expr} {rest : List Expr} {f g : BF} (ha : PT X a (TTf Γ f)) (hb : PW X (.BoolOp .Or (b :: rest) pos) (TTf Γ g)) : PW X (.BoolOp .Or (a :: b :: rest) pos) (TTf Γ (bOr f g)) := pw_of (pw_or ha hb) fun σ H Q ⟨ρ, η, st, s, n, p⟩ =>
  tt_mono (tt_bind p s n) fun c H1 ⟨ρ1, st1, e1, s1, n1, p1⟩ => by
    cases c with
    | true => exact iteT (po_ok p1 s1 rfl)
    | false => exact iteF ⟨ρ1, η, st1, s1, n1, p1⟩
/-- and, or, not as values: all but the last a bool -/
def eAnd (f g : EF) : EF := fun η st => (f η st).bind fun v s => match v with
  | .bl true => g η s
  | .bl false => .ok (.bl false) s
  | _ => .stuck
def eOr (f g : EF) : EF := fun η st => (f η st).bind fun v s => match v with
  | .bl true => .ok (.bl true) s
  | .bl false => g η s
  | _ => .stuck
def eNot (f : EF) : EF := fun η st => (f η st).bind fun v s => match v with
  | .bl b => .ok (.bl (!b)) s
  | _ => .stuck
theorem ok_one {op : BoolOp} {f : EF} (h : PE X e (TEf Γ f)) : PE X (.BoolOp op [e] pos) (TEf Γ f) := pe_one h
theorem ok_and {a b : Expr} {rest : List Expr} {f g : EF} (ha : PE X a (TEf Γ f)) (hb : PE X (.BoolOp .And (b :: rest) pos) (TEf Γ g)) : PE X (.BoolOp .And (a :: b :: rest) pos) (TEf Γ (eAnd f g)) := pe_of (pe_and ha hb) fun σ H Q ⟨ρ, η, st, s, n, p⟩ =>
  te_mono (te_bind p s n) fun x H1 ⟨ρ1, v, st1, e1, s1, n1, r1, p1⟩ => by
    cases v with
    | bl b =>
      cases r1
      refine ⟨b, rfl, ?_⟩
      cases b with
      | true => exact iteT ⟨ρ1, η, st1, s1, n1, p1⟩
      | false => exact iteF (po_ok p1 s1 (.bl false))
    | _ => exact p1.elim
theorem ok_or {a b : Expr} {rest : List Expr} {f g : EF} (ha : PE X a (TEf Γ f)) (hb : PE X (.BoolOp .Or (b :: rest) pos) (TEf Γ g)) : PE X (.BoolOp .Or (a :: b :: rest) pos) (TEf Γ (eOr f g)) := pe_of (pe_or ha hb) fun σ H Q ⟨ρ, η, st, s, n, p⟩ =>
  te_mono (te_bind p s n) fun x H1 ⟨ρ1, v, st1, e1, s1, n1, r1, p1⟩ => by
    cases v with
    | bl b =>
      cases r1
      refine ⟨b, rfl, ?_⟩
      cases b with
      | true => exact iteT (po_ok p1 s1 (.bl true))
      | false => exact iteF ⟨ρ1, η, st1, s1, n1, p1⟩
    | _ => exact p1.elim
theorem ok_not {f : EF} (h : PE X e (TEf Γ f)) : PE X (.UnaryOp .Not e pos) (TEf Γ (eNot f)) := pe_of (pe_not h) fun σ H Q ⟨ρ, η, st, s, n, p⟩ =>
  te_mono (te_bind p s n) fun x H1 ⟨ρ1, v, st1, e1, s1, n1, r1, p1⟩ => by
    cases v with
    | bl b => cases r1; exact ⟨b, rfl, po_ok p1 s1 (.bl (!b))⟩
    | _ => exact p1.elim
def eIf (c : BF) (f g : EF) : EF := fun η st => (c η st).bind fun b s => match b with
  | true => f η s
  | false => g η s
theorem ok_if {c a b : Expr} {t : BF} {f g : EF} (hc : PT X c (TTf Γ t)) (ha : PE X a (TEf Γ f)) (hb : PE X b (TEf Γ g)) : PE X (.IfExp c a b pos) (TEf Γ (eIf t f g)) := pe_of (pe_ifExp hc ha hb) fun σ H Q ⟨ρ, η, st, s, n, p⟩ =>
  tt_mono (tt_bind p s n) fun b H1 ⟨ρ1, st1, e1, s1, n1, p1⟩ => by
    cases b with
    | true => exact iteT ⟨ρ1, η, st1, s1, n1, p1⟩
    | false => exact iteF ⟨ρ1, η, st1, s1, n1, p1⟩
/-- a op b op c -/
def eCh (o o' : PV → PV → Sto → R PV) (f g h : EF) : EF := fun η st => (f η st).bind fun a s => (g η s).bind fun b s => (o a b s).bind fun v s => match v with
  | .bl true => (h η s).bind fun c s => o' b c s
  | .bl false => .ok (.bl false) s
  | _ => .stuck
theorem ok_chain {a b c : Expr} {op op' : CmpOp} {o o' : PV → PV → Sto → R PV} {f g h : EF} (ho : OpR X (compareOp op) (RO Γ o)) (ho' : OpR X (compareOp op') (RO Γ o')) (ha : PE X a (TEf Γ f)) (hb : PE X b (TEf Γ g)) (hc : PE X c (TEf Γ h))
    (hm : lastMarks [op, op'] [b, c] = false := by with_unfolding_all rfl) : PE X (.Compare a [op, op'] [b, c] pos) (TEf Γ (eCh o o' f g h)) := pe_of (pe_chain ho ho' ha hb hc hm) fun σ H Q ⟨ρ, η, st, s, n, p⟩ =>
  te_mono (te_bind p s n) fun x H1 ⟨ρ1, v, st1, e1, s1, n1, r1, p1⟩ => te_mono (te_bind p1 s1 n1) fun y H2 ⟨ρ2, u, st2, e2, s2, n2, r2, p2⟩ => by
    refine ⟨ρ2, st2, v, u, s2, r1.kp e2.kp, r2, ?_⟩
    revert p2
    cases o v u st2 with
    | stuck => exact fun q => q
    | exc _ _ _ => exact fun q => q
    | ok d st3 =>
      intro p3 ρ3 H3 z e3 s3 r3
      have p4 := Po.ext e3 p3
      cases d with
      | bl k =>
        cases r3
        refine ⟨k, rfl, ?_⟩
        cases k with
        | false => exact iteF (po_ok p4 s3 (.bl false))
        | true => exact iteT (te_mono (te_bind p4 s3 (n2.kp e3.kp)) fun w H4 ⟨ρ4, c', st4, e4, s4, n4, r4, p5⟩ => ⟨ρ4, st4, u, c', s4, (r2.kp e3.kp).kp e4.kp, r4, p5⟩)
      | _ => exact p4.elim
theorem okt_chain {a b c : Expr} {op op' : CmpOp} {o o' : PV → PV → Sto → R PV} {f g h : EF} (ho : OpR X (compareOp op) (RO Γ o)) (ho' : OpR X (compareOp op') (RO Γ o')) (ha : PE X a (TEf Γ f)) (hb : PE X b (TEf Γ g)) (hc : PE X c (TEf Γ h))
    (hm : lastMarks [op, op'] [b, c] = false := by with_unfolding_all rfl) : PT X (.Compare a [op, op'] [b, c] pos) (TTf Γ (bV (eCh o o' f g h))) := pt_of (pt_chain ho ho' ha hb hc hm) fun σ H Q q => by
  obtain ⟨ρ, η, st, s, n, p⟩ := te_bV q
  refine te_mono (te_bind p s n) fun x H1 ⟨ρ1, v, st1, e1, s1, n1, r1, p1⟩ => te_mono (te_bind p1 s1 n1) fun y H2 ⟨ρ2, u, st2, e2, s2, n2, r2, p2⟩ => ?_
  refine ⟨ρ2, st2, v, u, s2, r1.kp e2.kp, r2, ?_⟩
  revert p2
  cases o v u st2 with
  | stuck => exact fun q => q
  | exc _ _ _ => exact fun q => q
  | ok d st3 =>
    intro p3 ρ3 H3 z e3 s3 r3
    have p4 := Po.ext e3 p3
    cases d with
    | bl k =>
      cases r3
      refine ⟨k, rfl, ?_⟩
      cases k with
      | false => exact iteF (po_ok p4 s3 (.bl false))
      | true => exact iteT (te_mono (te_bind p4 s3 (n2.kp e3.kp)) fun w H4 ⟨ρ4, c', st4, e4, s4, n4, r4, p5⟩ => ⟨ρ4, st4, u, c', s4, (r2.kp e3.kp).kp e4.kp, r4, p5⟩)
    | _ => exact p4.elim
end
end Pl

set_option Elab.async false
set_option linter.all false
set_option maxRecDepth 100000
/-! Pl, part C: operations by values. -/
namespace Pl
open PySem PySem.Spec PyProof.Rows L2

/-- where one stands -/
structure Cc (Γ : Ct) (X : Cx) : Prop where
  K : X.K = Γ.K
  w : X.w = Γ.w
  calm : X.calm = true
  un : X.A.units + 200 < cLine

/-! ### data: no dict, nothing that changes -/
mutual
def PV.pl : Nat → PV → Bool
  | _, .non => true
  | _, .bl _ => true
  | _, .int _ => true
  | _, .str _ => true
  | 0, .tup _ => false
  | n + 1, .tup xs => PV.pls n xs
  | 0, .lst _ => false
  | n + 1, .lst xs => PV.pls n xs
  | _, .dct _ => false
  | _, .loc _ => false
  | _, .ty _ => false
def PV.pls : Nat → List PV → Bool
  | _, [] => true
  | n, x :: xs => PV.pl n x && PV.pls n xs
end
mutual
def PV.data : PV → PyData
  | .non => .none
  | .bl b => .bool b
  | .int i => .int i
  | .str c => .str (tx c)
  | .tup xs => .tuple (PV.datas xs)
  | .lst xs => .list (PV.datas xs)
  | .dct _ => .none
  | .loc _ => .none
  | .ty _ => .none
def PV.datas : List PV → List PyData
  | [] => []
  | x :: xs => PV.data x :: PV.datas xs
end
def b2z (b : Bool) : Int := if b then 1 else 0
mutual
/-- == -/
def PV.eqv : PV → PV → Bool
  | .non, y => match y with
    | .non => true
    | _ => false
  | .bl a, y => match y with
    | .bl b => a == b
    | .int j => b2z a == j
    | _ => false
  | .int i, y => match y with
    | .bl b => i == b2z b
    | .int j => i == j
    | _ => false
  | .str a, y => match y with
    | .str b => a == b
    | _ => false
  | .tup xs, y => match y with
    | .tup ys => PV.eqvs xs ys
    | _ => false
  | .lst xs, y => match y with
    | .lst ys => PV.eqvs xs ys
    | _ => false
  | .dct _, _ => false
  | .loc _, _ => false
  | .ty _, _ => false
def PV.eqvs : List PV → List PV → Bool
  | [], ys => match ys with
    | [] => true
    | _ => false
  | x :: xs, ys => match ys with
    | [] => false
    | y :: ys => PV.eqv x y && PV.eqvs xs ys
end
mutual
theorem PV.data_plain : ∀ (n : Nat) (x : PV), x.pl n = true → x.data.plain = true ∧ x.data.depth ≤ n
  | n, .non, _ => ⟨rfl, by simp [PV.data, PyData.depth]⟩
  | n, .bl _, _ => ⟨rfl, by simp [PV.data, PyData.depth]⟩
  | n, .int _, _ => ⟨rfl, by simp [PV.data, PyData.depth]⟩
  | n, .str _, _ => ⟨rfl, by simp [PV.data, PyData.depth]⟩
  | 0, .tup _, h => by simp [PV.pl] at h
  | n + 1, .tup xs, h => by
    have q := PV.datas_plain n xs (by simpa [PV.pl] using h)
    exact ⟨by simpa [PV.data, PyData.plain] using q.1, by simp only [PV.data, PyData.depth]; exact Nat.succ_le_succ q.2⟩
  | 0, .lst _, h => by simp [PV.pl] at h
  | n + 1, .lst xs, h => by
    have q := PV.datas_plain n xs (by simpa [PV.pl] using h)
    exact ⟨by simpa [PV.data, PyData.plain] using q.1, by simp only [PV.data, PyData.depth]; exact Nat.succ_le_succ q.2⟩
  | _, .dct _, h => by simp [PV.pl] at h
  | _, .loc _, h => by simp [PV.pl] at h
  | _, .ty _, h => by simp [PV.pl] at h
theorem PV.datas_plain : ∀ (n : Nat) (xs : List PV), PV.pls n xs = true → PyData.plainAll (PV.datas xs) = true ∧ PyData.depthAll (PV.datas xs) ≤ n
  | n, [], _ => ⟨rfl, by simp [PV.datas, PyData.depthAll]⟩
  | n, x :: xs, h => by
    simp only [PV.pls, Bool.and_eq_true] at h
    have a := PV.data_plain n x h.1
    have b := PV.datas_plain n xs h.2
    exact ⟨by simp only [PV.datas, PyData.plainAll, a.1, b.1, Bool.and_self], by simp only [PV.datas, PyData.depthAll]; exact Nat.max_le.mpr ⟨a.2, b.2⟩⟩
end
theorem tx_beq (a b : List Nat) : (tx a == tx b) = (a == b) := by
  by_cases h : a = b
  · subst h; simp
  · have : tx a ≠ tx b := fun e => h (tx_inj e)
    rw [beq_eq_false_iff_ne.mpr this, beq_eq_false_iff_ne.mpr h]
mutual
theorem PV.eqv_data : ∀ (n m : Nat) (x y : PV), x.pl n = true → y.pl m = true → PyData.eqv x.data y.data = PV.eqv x y
  | _, _, .non, y, _, hy => by cases y <;> simp_all [PV.data, PyData.eqv, PV.eqv, PV.pl]
  | _, _, .bl a, y, _, hy => by cases y <;> simp_all [PV.data, PyData.eqv, PV.eqv, PV.pl, b2z]
  | _, _, .int i, y, _, hy => by cases y <;> simp_all [PV.data, PyData.eqv, PV.eqv, PV.pl, b2z]
  | _, _, .str a, y, _, hy => by cases y <;> simp_all [PV.data, PyData.eqv, PV.eqv, PV.pl, tx_beq]
  | 0, _, .tup _, _, h, _ => by simp [PV.pl] at h
  | n + 1, m, .tup xs, y, h, hy => by
    cases y with
    | tup ys =>
      cases m with
      | zero => simp [PV.pl] at hy
      | succ m =>
        simp only [PV.data, PyData.eqv, PV.eqv]
        exact PV.eqvs_data n m xs ys (by simpa [PV.pl] using h) (by simpa [PV.pl] using hy)
    | _ => simp_all [PV.data, PyData.eqv, PV.eqv, PV.pl]
  | 0, _, .lst _, _, h, _ => by simp [PV.pl] at h
  | n + 1, m, .lst xs, y, h, hy => by
    cases y with
    | lst ys =>
      cases m with
      | zero => simp [PV.pl] at hy
      | succ m =>
        simp only [PV.data, PyData.eqv, PV.eqv]
        exact PV.eqvs_data n m xs ys (by simpa [PV.pl] using h) (by simpa [PV.pl] using hy)
    | _ => simp_all [PV.data, PyData.eqv, PV.eqv, PV.pl]
  | _, _, .dct _, _, h, _ => by simp [PV.pl] at h
  | _, _, .loc _, _, h, _ => by simp [PV.pl] at h
  | _, _, .ty _, _, h, _ => by simp [PV.pl] at h
theorem PV.eqvs_data : ∀ (n m : Nat) (xs ys : List PV), PV.pls n xs = true → PV.pls m ys = true → PyData.eqvAll (PV.datas xs) (PV.datas ys) = PV.eqvs xs ys
  | _, _, [], [], _, _ => by simp [PV.datas, PyData.eqvAll, PV.eqvs]
  | _, _, [], _ :: _, _, _ => by simp [PV.datas, PyData.eqvAll, PV.eqvs]
  | _, _, _ :: _, [], _, _ => by simp [PV.datas, PyData.eqvAll, PV.eqvs]
  | n, m, x :: xs, y :: ys, hx, hy => by
    simp only [PV.pls, Bool.and_eq_true] at hx hy
    simp only [PV.datas, PyData.eqvAll, PV.eqvs]
    rw [PV.eqv_data n m x y hx.1 hy.1, PV.eqvs_data n m xs ys hx.2 hy.2]
end
section
variable {Γ : Ct} {ρ : Rho} {H : Hp} {st : Sto}
mutual
theorem Rep.dp : ∀ (n : Nat) (x : PV) (v : V), x.pl n = true → Rep Γ ρ H x v → Dp Γ.K H v x.data
  | _, .non, _, _, h => by cases h; exact .non
  | _, .bl b, _, _, h => by cases h; exact .bl b
  | _, .int b, _, _, h => by cases h; exact .int b
  | _, .str b, _, _, h => by cases h; exact .str (tx b)
  | 0, .tup _, _, h, _ => by simp [PV.pl] at h
  | n + 1, .tup xs, _, hp, h => by
    cases h with
    | tup t r => exact .tup t.sq (Reps.dp n xs _ (by simpa [PV.pl] using hp) r)
  | 0, .lst _, _, h, _ => by simp [PV.pl] at h
  | n + 1, .lst xs, _, hp, h => by
    cases h with
    | lst t r => exact .lst t.sq (Reps.dp n xs _ (by simpa [PV.pl] using hp) r)
  | _, .dct _, _, h, _ => by simp [PV.pl] at h
  | _, .loc _, _, h, _ => by simp [PV.pl] at h
  | _, .ty _, _, h, _ => by simp [PV.pl] at h
theorem Reps.dp : ∀ (n : Nat) (xs : List PV) (vs : List V), PV.pls n xs = true → Reps Γ ρ H xs vs → DpAll Γ.K H vs (PV.datas xs)
  | _, [], _, _, h => by cases h; exact .nil
  | n, x :: xs, _, hp, h => by
    simp only [PV.pls, Bool.and_eq_true] at hp
    cases h with
    | cons a b => exact .cons (Rep.dp n x _ hp.1 a) (Reps.dp n xs _ hp.2 b)
end
/-- a list of the store, its items; a value else as it stands -/
def deref (st : Sto) (v : PV) : PV := match v with
  | .loc n => match st[n]? with
    | some (.lst xs) => .lst xs
    | _ => .loc n
  | v => v
theorem RSt.isl (s : RSt Γ ρ st H) {n : Nat} {xs : List PV} {v : V} (hn : st[n]? = some (.lst xs)) (r : Rep Γ ρ H (.loc n) v) : ∃ a vs, v = .ref a ∧ H a = some (.lst vs) ∧ Reps Γ ρ H xs vs ∧ ρ.l[n]? = some a := by
  cases r with
  | loc h =>
    have q := s.at' n _ _ hn h
    cases q with
    | lst e r => exact ⟨_, _, rfl, e, r, h⟩
theorem deref_dp (s : RSt Γ ρ st H) {n : Nat} {x : PV} {v : V} (hp : (deref st x).pl n = true) (r : Rep Γ ρ H x v) : Dp Γ.K H v (deref st x).data := by
  cases x with
  | loc m =>
    cases hn : st[m]? with
    | none => simp [deref, hn, PV.pl] at hp
    | some o =>
      cases o with
      | lst xs =>
        obtain ⟨a, vs, rfl, e, r', _⟩ := s.isl hn r
        have hd : deref st (.loc m) = .lst xs := by simp [deref, hn]
        rw [hd] at hp ⊢
        cases n with
        | zero => simp [PV.pl] at hp
        | succ n => exact .lst (.inl (.inl e)) (Reps.dp n xs vs (by simpa [PV.pl] using hp) r')
      | _ => simp [deref, hn, PV.pl] at hp
  | _ => exact Rep.dp n _ v hp r
/-- the items of a list or tuple -/
def seqOf (st : Sto) (v : PV) : Option (List PV) := match v with
  | .tup xs => some xs
  | .lst xs => some xs
  | .loc n => match st[n]? with
    | some (.lst xs) => some xs
    | _ => none
  | _ => none
theorem seqOf_ok (s : RSt Γ ρ st H) {x : PV} {v : V} {xs : List PV} (h : seqOf st x = some xs) (r : Rep Γ ρ H x v) : ∃ a vs, v = .ref a ∧ (SqL Γ.K H a vs ∨ SqT Γ.K H a vs) ∧ Reps Γ ρ H xs vs := by
  cases x with
  | tup ys => cases h; cases r with | tup t q => exact ⟨_, _, rfl, .inr t.sq, q⟩
  | lst ys => cases h; cases r with | lst t q => exact ⟨_, _, rfl, .inl t.sq, q⟩
  | loc n =>
    cases hn : st[n]? with
    | none => simp [seqOf, hn] at h
    | some o =>
      cases o with
      | lst ys =>
        simp only [seqOf, hn, Option.some.injEq] at h
        subst h
        obtain ⟨a, vs, rfl, e, r', _⟩ := s.isl hn r
        exact ⟨a, vs, rfl, .inl (.inl (.inl e)), r'⟩
      | _ => simp [seqOf, hn] at h
  | _ => cases h
end

/-! ### operations -/
section
variable {Γ : Ct} {X : Cx}
theorem fin {ρ : Rho} {st : Sto} {H : Hp} {Q : VK} {pins : List (Addr × Obj)} {σ : L2.St} {s : Shared} {a : PV} {x : V} {u : Value} (I : Inv X pins σ H s) (p : Po Γ ρ H (Rep Γ) (.ok a st) Q) (h : RSt Γ ρ st H) (r : Rep Γ ρ H a x) (ru : RelV x u) : EP X pins σ Q u s :=
  ⟨x, H, I, ru, po_ok p h r⟩
def oEq (a b : PV) (st : Sto) : R PV := if ((deref st a).pl 90 && (deref st b).pl 90) = true then .ok (.bl (PV.eqv (deref st a) (deref st b))) st else .stuck
def oNe (a b : PV) (st : Sto) : R PV := if ((deref st a).pl 90 && (deref st b).pl 90) = true then .ok (.bl (!PV.eqv (deref st a) (deref st b))) st else .stuck
theorem op_Eq (c : Cc Γ X) : OpR X (compareOp .Eq) (RO Γ oEq) := by
  rintro pins s σ H x y v u Q I rx ry ⟨ρ, st, a, b, h, ha, hb, p⟩
  unfold oEq at p
  split at p
  · rename_i hp
    rw [Bool.and_eq_true] at hp
    have da := deref_dp h hp.1 ha
    have db := deref_dp h hp.2 hb
    rw [← c.K] at da db
    obtain ⟨as, r1⟩ := Dp.reads I _ x v da rx
    obtain ⟨bs, r2⟩ := Dp.reads I _ y u db ry
    have q1 := PV.data_plain _ _ hp.1
    have q2 := PV.data_plain _ _ hp.2
    have hu := c.un
    exact SeqAt.eq_plain r1 r2 q1.1 q2.1 (by omega) (by rw [PV.eqv_data _ _ _ _ hp.1 hp.2]; exact fin I p h (.bl _) rfl)
  · exact p.elim
theorem op_Ne (c : Cc Γ X) : OpR X (compareOp .NotEq) (RO Γ oNe) := by
  rintro pins s σ H x y v u Q I rx ry ⟨ρ, st, a, b, h, ha, hb, p⟩
  unfold oNe at p
  split at p
  · rename_i hp
    rw [Bool.and_eq_true] at hp
    have da := deref_dp h hp.1 ha
    have db := deref_dp h hp.2 hb
    rw [← c.K] at da db
    obtain ⟨as, r1⟩ := Dp.reads I _ x v da rx
    obtain ⟨bs, r2⟩ := Dp.reads I _ y u db ry
    have q1 := PV.data_plain _ _ hp.1
    have q2 := PV.data_plain _ _ hp.2
    have hu := c.un
    exact SeqAt.ne_plain r1 r2 q1.1 q2.1 (by omega) (by rw [PV.eqv_data _ _ _ _ hp.1 hp.2]; exact fin I p h (.bl _) rfl)
  · exact p.elim
/-- + -/
def oAdd (a b : PV) (st : Sto) : R PV := match a, b with
  | .int i, .int j => .ok (.int (i + j)) st
  | .str x, .str y => if x.length + y.length ≤ LIM then .ok (.str (x ++ y)) st else .stuck
  | .tup x, .tup y => if x.length + y.length ≤ LIM then .ok (.tup (x ++ y)) st else .stuck
  | .lst x, .lst y => if x.length + y.length ≤ LIM then .ok (.lst (x ++ y)) st else .stuck
  | _, _ => .stuck
theorem tx_app (x y : List Nat) : tx x ++ tx y = tx (x ++ y) := by
  show (⟨(x.toArray ++ y.toArray)⟩ : Str) = _
  simp [tx]
def oSub (a b : PV) (st : Sto) : R PV := match a, b with
  | .int i, .int j => .ok (.int (i - j)) st
  | _, _ => .stuck
theorem op_Sub : OpR X (binaryOp .Sub) (RO Γ oSub) := by
  rintro pins s σ H x y v u Q I rx ry ⟨ρ, st, a, b, h, ha, hb, p⟩
  cases a with
  | int i =>
    cases b with
    | int j => cases ha; cases hb; exact op_sub pins s σ H _ _ v u Q I rx ry ⟨i, j, rfl, rfl, po_ok p h (.int _)⟩
    | _ => exact p.elim
  | _ => exact p.elim
def oLt (f : Int → Int → Bool) (g : List Nat → List Nat → Bool) (a b : PV) (st : Sto) : R PV := match a, b with
  | .int i, .int j => .ok (.bl (f i j)) st
  | .str x, .str y => .ok (.bl (g x y)) st
  | _, _ => .stuck
theorem tx_cps (x : List Nat) : (tx x).cps.toList = x := by simp [tx]
theorem op_Lt : OpR X (compareOp .Lt) (RO Γ (oLt (fun i j => decide (i < j)) fun x y => decide (x < y))) := by
  rintro pins s σ H x y v u Q I rx ry ⟨ρ, st, a, b, h, ha, hb, p⟩
  cases a with
  | int i =>
    cases b with
    | int j => cases ha; cases hb; exact op_lt pins s σ H _ _ v u Q I rx ry ⟨i, j, rfl, rfl, po_ok p h (.bl _)⟩
    | _ => exact p.elim
  | str i =>
    cases b with
    | str j => cases ha; cases hb; exact op_lt_str pins s σ H _ _ v u Q I rx ry ⟨_, _, rfl, rfl, by rw [tx_cps, tx_cps]; exact po_ok p h (.bl _)⟩
    | _ => exact p.elim
  | _ => exact p.elim
def oI (f : Int → Int → Bool) (a b : PV) (st : Sto) : R PV := match a, b with
  | .int i, .int j => .ok (.bl (f i j)) st
  | _, _ => .stuck
theorem op_Le : OpR X (compareOp .LtE) (RO Γ (oI fun i j => decide (i ≤ j))) := by
  rintro pins s σ H x y v u Q I rx ry ⟨ρ, st, a, b, h, ha, hb, p⟩
  cases a with
  | int i =>
    cases b with
    | int j => cases ha; cases hb; exact op_le pins s σ H _ _ v u Q I rx ry ⟨i, j, rfl, rfl, po_ok p h (.bl _)⟩
    | _ => exact p.elim
  | _ => exact p.elim
theorem op_Gt : OpR X (compareOp .Gt) (RO Γ (oI fun i j => decide (j < i))) := by
  rintro pins s σ H x y v u Q I rx ry ⟨ρ, st, a, b, h, ha, hb, p⟩
  cases a with
  | int i =>
    cases b with
    | int j => cases ha; cases hb; exact op_gt pins s σ H _ _ v u Q I rx ry ⟨i, j, rfl, rfl, po_ok p h (.bl _)⟩
    | _ => exact p.elim
  | _ => exact p.elim
theorem op_Ge : OpR X (compareOp .GtE) (RO Γ (oI fun i j => decide (j ≤ i))) := by
  rintro pins s σ H x y v u Q I rx ry ⟨ρ, st, a, b, h, ha, hb, p⟩
  cases a with
  | int i =>
    cases b with
    | int j => cases ha; cases hb; exact op_ge pins s σ H _ _ v u Q I rx ry ⟨i, j, rfl, rfl, po_ok p h (.bl _)⟩
    | _ => exact p.elim
  | _ => exact p.elim
def oNeg (a : PV) (st : Sto) : R PV := match a with
  | .int i => .ok (.int (-i)) st
  | _ => .stuck
theorem un_Neg : UnR X (unaryOp .USub) (RU Γ oNeg) := by
  rintro pins s σ H x v Q I rx ⟨ρ, st, a, h, ha, p⟩
  cases a with
  | int i => cases ha; exact un_neg pins s σ H _ v Q I rx ⟨i, rfl, po_ok p h (.int _)⟩
  | _ => exact p.elim
/-- % // by a positive number; * and ** of numbers of a bounded size -/
def oMod (a b : PV) (st : Sto) : R PV := match a, b with
  | .int i, .int j => if 0 < j then .ok (.int (i % j)) st else .stuck
  | _, _ => .stuck
theorem op_Mod : OpR X (binaryOp .Mod) (RO Γ oMod) := by
  rintro pins s σ H x y v u Q I rx ry ⟨ρ, st, a, b, h, ha, hb, p⟩
  cases a with
  | int i =>
    cases b with
    | int j =>
      cases ha; cases hb
      unfold oMod at p
      dsimp only at p
      split at p
      · rename_i hj
        exact op_mod pins s σ H _ _ v u Q I rx ry ⟨i, j, rfl, rfl, hj, po_ok p h (.int _)⟩
      · exact p.elim
    | _ => exact p.elim
  | _ => exact p.elim
def oMul (a b : PV) (st : Sto) : R PV := match a, b with
  | .int i, .int j => if (decide (i.natAbs < 2 ^ 64) || decide (j.natAbs < 2 ^ 64)) = true then .ok (.int (i * j)) st else .stuck
  | _, _ => .stuck
theorem op_Mul : OpR X (binaryOp .Mult) (RO Γ oMul) := by
  rintro pins s σ H x y v u Q I rx ry ⟨ρ, st, a, b, h, ha, hb, p⟩
  cases a with
  | int i =>
    cases b with
    | int j =>
      cases ha; cases hb
      unfold oMul at p
      dsimp only at p
      split at p
      · rename_i hj
        refine op_mul pins s σ H _ _ v u Q I rx ry ⟨i, j, rfl, rfl, ?_, po_ok p h (.int _)⟩
        simp only [Bool.or_eq_true, decide_eq_true_eq] at hj
        unfold CMul
        omega
      · exact p.elim
    | _ => exact p.elim
  | _ => exact p.elim
def oDiv (a b : PV) (st : Sto) : R PV := match a, b with
  | .int i, .int j => if (decide (0 < j) && decide (j.natAbs.log2 < 9000)) = true then .ok (.int (i / j)) st else .stuck
  | _, _ => .stuck
theorem op_Div : OpR X (binaryOp .FloorDiv) (RO Γ oDiv) := by
  rintro pins s σ H x y v u Q I rx ry ⟨ρ, st, a, b, h, ha, hb, p⟩
  cases a with
  | int i =>
    cases b with
    | int j =>
      cases ha; cases hb
      unfold oDiv at p
      dsimp only at p
      split at p
      · rename_i hj
        simp only [Bool.and_eq_true, decide_eq_true_eq] at hj
        exact op_fdivW pins s σ H _ _ v u Q I rx ry ⟨i, j, rfl, rfl, hj, po_ok p h (.int _)⟩
      · exact p.elim
    | _ => exact p.elim
  | _ => exact p.elim
def oPow (a b : PV) (st : Sto) : R PV := match a, b with
  | .int i, .int j => if (decide (0 ≤ j) && decide (j ≤ 1000) && decide (i.natAbs < 2 ^ 64)) = true then .ok (.int (i ^ j.toNat)) st else .stuck
  | _, _ => .stuck
theorem op_Pow : OpR X (binaryOp .Pow) (RO Γ oPow) := by
  rintro pins s σ H x y v u Q I rx ry ⟨ρ, st, a, b, h, ha, hb, p⟩
  cases a with
  | int i =>
    cases b with
    | int j =>
      cases ha; cases hb
      unfold oPow at p
      dsimp only at p
      split at p
      · rename_i hj
        simp only [Bool.and_eq_true, decide_eq_true_eq] at hj
        exact op_pow pins s σ H _ _ v u Q I rx ry ⟨i, j, rfl, rfl, ⟨hj.1.1, by omega, hj.2⟩, po_ok p h (.int _)⟩
      · exact p.elim
    | _ => exact p.elim
  | _ => exact p.elim
/-- is None, is not None -/
def PV.isN : PV → Bool
  | .non => true
  | _ => false
def oIsN (neg : Bool) (a b : PV) (st : Sto) : R PV := match b with
  | .non => .ok (.bl (if neg then !a.isN else a.isN)) st
  | _ => .stuck
theorem rep_non {ρ : Rho} {H : Hp} {a : PV} {x : V} (h : Rep Γ ρ H a x) : decide (x = .non) = a.isN := by
  cases h <;> simp [PV.isN]
theorem op_IsN : OpR X (compareOp .Is) (RO Γ (oIsN false)) := by
  rintro pins s σ H x y v u Q I rx ry ⟨ρ, st, a, b, h, ha, hb, p⟩
  cases b with
  | non => cases hb; exact op_isN pins s σ H _ _ v u Q I rx ry ⟨rfl, by rw [rep_non ha]; exact po_ok p h (.bl _)⟩
  | _ => exact p.elim
theorem op_NotN : OpR X (compareOp .IsNot) (RO Γ (oIsN true)) := by
  rintro pins s σ H x y v u Q I rx ry ⟨ρ, st, a, b, h, ha, hb, p⟩
  cases b with
  | non => cases hb; exact op_notN pins s σ H _ _ v u Q I rx ry ⟨rfl, by rw [rep_non ha]; exact po_ok p h (.bl _)⟩
  | _ => exact p.elim
/-- in, not in, of a list or tuple of data -/
def anyEqv (x : PV) : List PV → Bool
  | [] => false
  | y :: ys => PV.eqv y x || anyEqv x ys
theorem any_datas {n m : Nat} {x : PV} (hx : x.pl n = true) : ∀ {ys : List PV}, PV.pls m ys = true → ((PV.datas ys).any fun y => PyData.eqv y x.data) = anyEqv x ys
  | [], _ => rfl
  | y :: ys, h => by
    simp only [PV.pls, Bool.and_eq_true] at h
    simp only [PV.datas, List.any_cons, anyEqv]
    rw [PV.eqv_data _ _ y x h.1 hx, any_datas hx h.2]
def findSub : List Nat → List Nat → Bool
  | p, [] => p.isEmpty
  | p, c :: cs => p.isPrefixOf (c :: cs) || findSub p cs
def oIn (neg : Bool) (a b : PV) (st : Sto) : R PV := match seqOf st b with
  | some ys => if (a.pl 80 && PV.pls 80 ys) = true then .ok (.bl (if neg then !anyEqv a ys else anyEqv a ys)) st else .stuck
  | none => match a, b with
    | .str x, .str y => .ok (.bl (if neg then !findSub x y else findSub x y)) st
    | _, _ => .stuck
theorem isPrefixOf_iff (p l : List Nat) : p.isPrefixOf l = true ↔ l.take p.length = p := by
  induction p generalizing l with
  | nil => simp [List.isPrefixOf]
  | cons a p ih =>
    cases l with
    | nil => simp [List.isPrefixOf]
    | cons b l =>
      show (a == b && p.isPrefixOf l) = true ↔ b :: l.take p.length = a :: p
      rw [Bool.and_eq_true, beq_iff_eq, ih, List.cons.injEq]
      exact ⟨fun ⟨x, y⟩ => ⟨x.symm, y⟩, fun ⟨x, y⟩ => ⟨x.symm, y⟩⟩
theorem findSub_iff (p : List Nat) : ∀ l : List Nat, findSub p l = true ↔ ∃ i, i + p.length ≤ l.length ∧ (l.drop i).take p.length = p
  | [] => by
    constructor
    · intro h
      have : p = [] := by simpa [findSub] using h
      subst this
      exact ⟨0, by simp, by simp⟩
    · rintro ⟨i, h1, _⟩
      simp only [List.length_nil] at h1
      have : p = [] := List.eq_nil_of_length_eq_zero (by omega)
      subst this; rfl
  | c :: cs => by
    simp only [findSub, Bool.or_eq_true, isPrefixOf_iff, findSub_iff p cs]
    constructor
    · rintro (h | ⟨i, h1, h2⟩)
      · refine ⟨0, ?_, by simpa using h⟩
        have := congrArg List.length h
        simp only [List.length_take] at this
        omega
      · exact ⟨i + 1, by simp only [List.length_cons]; omega, by simpa using h2⟩
    · rintro ⟨i, h1, h2⟩
      cases i with
      | zero => exact .inl (by simpa using h2)
      | succ i => exact .inr ⟨i, by simp only [List.length_cons] at h1; omega, by simpa using h2⟩
theorem sub_at (x y : List Nat) (i : Nat) : Builtin.Str.subAt (tx x) (tx y) i = true ↔ (x.drop i).take y.length = y := by
  rw [StrLaws.subAt_eq]
  simp [tx, Str.length]
theorem found_tx (x y : List Nat) : (!(Builtin.Str.occurrences (tx x) (tx y) 0 (tx x).length 1).isEmpty) = findSub y x := by
  rw [Bool.eq_iff_iff, StrLaws.found_iff, findSub_iff]
  simp only [tx_len, sub_at]
theorem in_seq (c : Cc Γ X) (neg : Bool) {pins : List (Addr × Obj)} {s : Shared} {σ : L2.St} {H : Hp} {x y : V} {v u : Value} {Q : VK} {ρ : Rho} {st : Sto} {a b : PV} {ys : List PV} (I : Inv X pins σ H s) (rx : RelV x v) (ry : RelV y u) (h : RSt Γ ρ st H) (ha : Rep Γ ρ H a x) (hb : Rep Γ ρ H b y)
    (hs : seqOf st b = some ys) (pa : a.pl 80 = true) (pb : PV.pls 80 ys = true) (q : Q (.bl (if neg then !anyEqv a ys else anyEqv a ys)) H) : wpAny (model X.prog X.w) X.A (compareOp (if neg then .NotIn else .In) v u) (EP X pins σ Q) X.xe s := by
  obtain ⟨p, vs, rfl, hq, hr⟩ := seqOf_ok h hs hb
  have da := Rep.dp 80 a x pa ha
  have db := Reps.dp 80 ys vs pb hr
  rw [← c.K] at da db hq
  have q1 := PV.data_plain _ _ pa
  have q2 := PV.datas_plain _ _ pb
  have hu := c.un
  obtain ⟨as, r1⟩ := Dp.reads I _ x v da rx
  rcases hq with hq | hq
  · obtain ⟨bs, r2⟩ := Dp.reads I (.list (PV.datas ys)) _ u (.lst hq db) ry
    cases neg with
    | true => exact SeqAt.notIn_list_data r2 r1 q2.1 q1.1 (by omega) (by rw [any_datas pa pb]; exact ⟨.bl _, H, I, rfl, q⟩)
    | false => exact SeqAt.in_list_data r2 r1 q2.1 q1.1 (by omega) (by rw [any_datas pa pb]; exact ⟨.bl _, H, I, rfl, q⟩)
  · obtain ⟨bs, r2⟩ := Dp.reads I (.tuple (PV.datas ys)) _ u (.tup hq db) ry
    cases neg with
    | true => exact SeqAt.notIn_tuple_data r2 r1 q2.1 q1.1 (by omega) (by rw [any_datas pa pb]; exact ⟨.bl _, H, I, rfl, q⟩)
    | false => exact SeqAt.in_tuple_data r2 r1 q2.1 q1.1 (by omega) (by rw [any_datas pa pb]; exact ⟨.bl _, H, I, rfl, q⟩)
theorem op_InG (c : Cc Γ X) (neg : Bool) : OpR X (compareOp (if neg then .NotIn else .In)) (RO Γ (oIn neg)) := by
  rintro pins s σ H x y v u Q I rx ry ⟨ρ, st, a, b, h, ha, hb, p⟩
  unfold oIn at p
  cases hs : seqOf st b with
  | some ys =>
    rw [hs] at p
    dsimp only at p
    split at p
    · rename_i hp
      rw [Bool.and_eq_true] at hp
      exact in_seq c neg I rx ry h ha hb hs hp.1 hp.2 (po_ok p h (.bl _))
    · exact p.elim
  | none =>
    rw [hs] at p
    cases a with
    | str i =>
      cases b with
      | str j =>
        cases ha; cases hb
        cases neg with
        | true => exact op_notin_str pins s σ H _ _ v u Q I rx ry ⟨_, _, rfl, rfl, by rw [found_tx]; exact po_ok p h (.bl _)⟩
        | false => exact op_in_str pins s σ H _ _ v u Q I rx ry ⟨_, _, rfl, rfl, by rw [found_tx]; exact po_ok p h (.bl _)⟩
      | _ => exact p.elim
    | _ => exact p.elim
theorem op_In (c : Cc Γ X) : OpR X (compareOp .In) (RO Γ (oIn false)) := op_InG c false
theorem op_NotIn (c : Cc Γ X) : OpR X (compareOp .NotIn) (RO Γ (oIn true)) := op_InG c true

/-! ### len, isinstance, int -/
def lenOf (st : Sto) (v : PV) : Option Nat := match v with
  | .str c => some c.length
  | .tup xs => some xs.length
  | .lst xs => some xs.length
  | .dct kvs => some kvs.length
  | .loc n => match st[n]? with
    | some (.lst xs) => some xs.length
    | some (.dct _ kvs) => some kvs.length
    | _ => none
  | _ => none
/-- of what is no dict -/
def fLen (as : List PV) (st : Sto) : R PV := match as with
  | [.str c] => if c.length ≤ LIM then .ok (.int c.length) st else .stuck
  | [x] => match seqOf st x with
    | some xs => .ok (.int xs.length) st
    | none => .stuck
  | _ => .stuck
theorem seqOf_okX (c : Cc Γ X) {ρ : Rho} {H : Hp} {st : Sto} (s : RSt Γ ρ st H) {x : PV} {v : V} {xs : List PV} (h : seqOf st x = some xs) (r : Rep Γ ρ H x v) : ∃ a vs, v = .ref a ∧ (SqL X.K H a vs ∨ SqT X.K H a vs) ∧ Reps Γ ρ H xs vs := by
  rw [c.K]
  exact seqOf_ok s h r
theorem reps1 {ρ : Rho} {H : Hp} {x : PV} {vs : List V} (h : Reps Γ ρ H [x] vs) : ∃ v, vs = [v] ∧ Rep Γ ρ H x v := by
  cases h with
  | cons a b => cases b; exact ⟨_, rfl, a⟩
theorem reps2 {ρ : Rho} {H : Hp} {x y : PV} {vs : List V} (h : Reps Γ ρ H [x, y] vs) : ∃ v u, vs = [v, u] ∧ Rep Γ ρ H x v ∧ Rep Γ ρ H y u := by
  cases h with
  | cons a b =>
    obtain ⟨u, rfl, r⟩ := reps1 b
    exact ⟨_, _, rfl, a, r⟩
def o1 (f : PV → Sto → R PV) : List PV → Sto → R PV
  | [x], st => f x st
  | _, _ => .stuck
def o2 (f : PV → PV → Sto → R PV) : List PV → Sto → R PV
  | [x, y], st => f x y st
  | _, _ => .stuck
theorem rc1 {f : PV → Sto → R PV} {vs : List V} {H : Hp} {Q : VK} (h : RC Γ (o1 f) vs H Q) : ∃ ρ st x v, vs = [v] ∧ RSt Γ ρ st H ∧ Rep Γ ρ H x v ∧ Po Γ ρ H (Rep Γ) (f x st) Q := by
  obtain ⟨ρ, st, as, h, ha, p⟩ := h
  match as, ha, p with
  | [x], ha, p =>
    obtain ⟨v, rfl, r⟩ := reps1 ha
    exact ⟨ρ, st, x, v, rfl, h, r, p⟩
  | [], _, p => exact p.elim
  | _ :: _ :: _, _, p => exact p.elim
theorem rc2 {f : PV → PV → Sto → R PV} {vs : List V} {H : Hp} {Q : VK} (h : RC Γ (o2 f) vs H Q) : ∃ ρ st x y v u, vs = [v, u] ∧ RSt Γ ρ st H ∧ Rep Γ ρ H x v ∧ Rep Γ ρ H y u ∧ Po Γ ρ H (Rep Γ) (f x y st) Q := by
  obtain ⟨ρ, st, as, h, ha, p⟩ := h
  match as, ha, p with
  | [x, y], ha, p =>
    obtain ⟨v, u, rfl, r1, r2⟩ := reps2 ha
    exact ⟨ρ, st, x, y, v, u, rfl, h, r1, r2, p⟩
  | [], _, p => exact p.elim
  | [_], _, p => exact p.elim
  | _ :: _ :: _ :: _, _, p => exact p.elim
def gLen (x : PV) (st : Sto) : R PV := match x with
  | .str c => if c.length ≤ LIM then .ok (.int c.length) st else .stuck
  | x => match seqOf st x with
    | some xs => .ok (.int xs.length) st
    | none => .stuck
theorem cl_len (c : Cc Γ X) : CallR X (.builtin "len") (RC Γ (o1 gLen)) := by
  intro pins s σ H xs us Q I r hh
  obtain ⟨ρ, st, x, v, rfl, h, a1, p⟩ := rc1 hh
  unfold gLen at p
  split at p
  · split at p
    · rename_i cs hl
      cases a1
      exact call_len pins s σ H _ us Q I r ⟨_, _, rfl, ⟨by rw [tx_len]; exact lim_le hl, rfl⟩, by rw [tx_len]; exact po_ok p h (.int _)⟩
    · exact p.elim
  · cases hs : seqOf st x with
    | none => rw [hs] at p; exact p.elim
    | some ys =>
      rw [hs] at p
      obtain ⟨p0, vs, rfl, hq, hr⟩ := seqOf_okX c h hs a1
      exact call_len pins s σ H _ us Q I r ⟨_, _, rfl, hq.elim (fun z => .inl ⟨_, z, rfl⟩) (fun z => .inr ⟨_, z, rfl⟩), by rw [← hr.length]; exact po_ok p h (.int _)⟩
/-- isinstance(x, T), T one of tyN's first six -/
def PV.kd (st : Sto) : PV → Option Nat
  | .int _ => some 0
  | .bl _ => some 1
  | .str _ => some 2
  | .tup _ => some 3
  | .lst _ => some 4
  | .dct _ => some 5
  | .non => some 6
  | .loc n => match st[n]? with
    | some (.lst _) => some 4
    | some (.dct _ _) => some 5
    | _ => none
  | .ty _ => none
def isTy (a b : Nat) : Bool := a == b || (a == 1 && b == 0)
theorem kit_all : ∀ a b : Nat, a < 7 → b < 6 → kitB (tyN a) (tyN b) = some (isTy a b) := by
  have h : ((List.range 7).all fun a => (List.range 6).all fun b => kitB (tyN a) (tyN b) == some (isTy a b)) = true := by decide +kernel
  intro a b ha hb
  have h1 := List.all_eq_true.mp h a (List.mem_range.mpr ha)
  have h2 := List.all_eq_true.mp h1 b (List.mem_range.mpr hb)
  exact beq_iff_eq.mp h2
def gIsi (x t : PV) (st : Sto) : R PV := match t with
  | .ty n => match x.kd st with
    | some k => if n < 6 then .ok (.bl (isTy k n)) st else .stuck
    | none => .stuck
  | _ => .stuck
theorem kd_lt {st : Sto} {x : PV} {k : Nat} (h : x.kd st = some k) : k < 7 := by
  unfold PV.kd at h
  split at h <;> first | (cases h; decide) | (split at h <;> first | (cases h; decide) | cases h) | cases h
theorem dis_kit {w : World} {a : Addr} {es : List (V × NestedKey × V)} {h : Heap} (x : DIs w a es h) : PySem.W.KitAt a "dict" h := by
  obtain ⟨_, _, _, o, ents, ep, e, ex, _⟩ := x
  exact ⟨o, e, ex.1⟩
theorem kit_rep (c : Cc Γ X) {pins : List (Addr × Obj)} {s : Shared} {σ : L2.St} {H : Hp} {ρ : Rho} {st : Sto} {x : PV} {v : V} {u : Value} {k : Nat} (I : Inv X pins σ H s) (rv : RelV v u) (h : RSt Γ ρ st H) (r : Rep Γ ρ H x v) (hk : x.kd st = some k) :
    ∃ P : Heap → Prop, PySem.W.KitX X.K u (.type (tyN k)) P ∧ P s.heap ∧ u ≠ .builtin "__main__.__loader__#opaque" := by
  have dk : ∀ {a : Addr} {es : List (V × NestedKey × V)}, ObjOk X.prog X.w H s.heap a (DN Γ.w a es) → PySem.W.KitAt a "dict" s.heap := fun {a es} q => dis_kit q.1
  cases r with
  | non => cases hk; cases rv; exact ⟨_, PySem.W.kitx_none, True.intro, fun z => nomatch z⟩
  | bl b => cases hk; cases rv; exact ⟨_, PySem.W.kitx_bool, True.intro, fun z => nomatch z⟩
  | int i => cases hk; obtain ⟨t, rfl⟩ := rv; exact ⟨_, PySem.W.kitx_int, True.intro, fun z => nomatch z⟩
  | str i => cases hk; obtain ⟨t, rfl⟩ := rv; exact ⟨_, PySem.W.kitx_str, True.intro, fun z => nomatch z⟩
  | tup t q =>
    cases hk; cases rv
    have t' := t.sq
    rw [← c.K] at t'
    obtain ⟨its, _, ⟨o, e, hc, _⟩, _⟩ := I.tuple t'
    exact ⟨_, PySem.W.kitx_tuple, ⟨o, e, hc⟩, fun z => nomatch z⟩
  | lst t q =>
    cases hk; cases rv
    have t' := t.sq
    rw [← c.K] at t'
    obtain ⟨its, _, ⟨o, n, e, hc, _⟩, _⟩ := I.list t'
    exact ⟨_, PySem.W.kitx_list, ⟨o, e, hc⟩, fun z => nomatch z⟩
  | dct t n q =>
    cases hk; cases rv
    exact ⟨_, PySem.W.kitx_dict, dk (t.ok I.hok).2, fun z => nomatch z⟩
  | loc hn =>
    rename_i n a
    cases rv
    have hl : n < st.length := by rw [← h.len]; exact (List.getElem?_eq_some_iff.mp hn).1
    have q := h.at' n _ a (List.getElem?_eq_getElem hl) hn
    have e : st[n]? = some st[n] := List.getElem?_eq_getElem hl
    unfold PV.kd at hk
    dsimp only at hk
    rw [e] at hk
    generalize st[n] = o at q hk
    cases q with
    | lst e r =>
      cases hk
      obtain ⟨_, its, m, _, h1⟩ := (show ObjOk X.prog X.w H s.heap a (.lst _) from I.hok a _ e)
      exact ⟨_, PySem.W.kitx_list, ⟨_, h1, rfl⟩, fun z => nomatch z⟩
    | dct e r => cases hk; exact ⟨_, PySem.W.kitx_dict, dk (I.hok a _ e), fun z => nomatch z⟩
    | frz e r => cases hk; exact ⟨_, PySem.W.kitx_dict, dk (Rd.ok (.inr ⟨_, e⟩) I.hok), fun z => nomatch z⟩
    | ins e r => cases hk
  | ty n => cases hk
theorem cl_isi (c : Cc Γ X) : CallR X (.builtin "isinstance") (RC Γ (o2 gIsi)) := by
  intro pins s σ H xs us Q I r hh
  obtain ⟨ρ, st, x, y, v, u, rfl, h, a1, a2, p⟩ := rc2 hh
  obtain ⟨u1, u2, rfl, r1, r2⟩ := vals2 r
  cases y with
  | ty n =>
    unfold gIsi at p
    dsimp only at p
    cases hk : x.kd st with
    | none => rw [hk] at p; exact p.elim
    | some k =>
      rw [hk] at p
      dsimp only at p
      split at p
      · rename_i hn
        cases a2
        cases r2
        obtain ⟨P, Z, pz, hx⟩ := kit_rep c I r1 h a1 hk
        exact PySem.W.kia_one Z I.kIn pz (kit_ty (kit_all k n (kd_lt hk) hn)) hx fun tk => ⟨.bl _, H, I.tok tk, rfl, po_ok p h (.bl _)⟩
      · exact p.elim
  | _ => exact p.elim
/-- int(x) -/
def gInt (x : PV) (st : Sto) : R PV := match x with
  | .int i => .ok (.int i) st
  | .bl b => .ok (.int (if b then 1 else 0)) st
  | _ => .stuck
theorem cl_int : CallR X (.type "int") (RC Γ (o1 gInt)) := by
  intro pins s σ H xs us Q I r hh
  obtain ⟨ρ, st, x, v, rfl, h, a1, p⟩ := rc1 hh
  cases x with
  | int i => cases a1; exact call_int1 pins s σ H _ us Q I r (.inl ⟨i, rfl, po_ok p h (.int _)⟩)
  | bl b => cases a1; exact call_int1 pins s σ H _ us Q I r (.inr ⟨b, rfl, po_ok p h (.int _)⟩)
  | _ => exact p.elim
end
end Pl

set_option Elab.async false
set_option linter.all false
set_option maxRecDepth 100000
/-! Pl, part D: places, slices, sequences. -/
namespace Pl
open PySem PySem.Spec PyProof.Rows L2
section
variable {Γ : Ct} {X : Cx} {pos : Pos}
theorem atI_reps {ρ : Rho} {H : Hp} {xs : List PV} {vs : List V} {i : Int} {x : PV} (r : Reps Γ ρ H xs vs) (h : atI xs i = some x) : ∃ v, atI vs i = some v ∧ Rep Γ ρ H x v := by
  unfold atI at h ⊢
  rw [← r.length]
  cases e : ixN xs.length i with
  | none => rw [e] at h; cases h
  | some j => rw [e] at h; exact r.get h
def oIx (a b : PV) (st : Sto) : R PV := match b with
  | .int i => match seqOf st a with
    | some xs => match atI xs i with
      | some v => .ok v st
      | none => .stuck
    | none => match a with
      | .str c => if c.length ≤ LIM then (match atI c i with
        | some z => .ok (.str [z]) st
        | none => .stuck) else .stuck
      | _ => .stuck
  | _ => .stuck
theorem ix_Seq (c : Cc Γ X) : IxR X (RO Γ oIx) := by
  rintro value slice pins s σ H x y v u Q I rx ry ⟨ρ, st, a, b, h, ha, hb, p⟩ hs
  cases b with
  | int i =>
    cases hb
    unfold oIx at p
    dsimp only at p
    cases hq : seqOf st a with
    | some xs =>
      rw [hq] at p
      dsimp only at p
      obtain ⟨p0, vs, rfl, hv, hr⟩ := seqOf_okX c h hq ha
      cases hx : atI xs i with
      | none => rw [hx] at p; exact p.elim
      | some z =>
        rw [hx] at p
        obtain ⟨w, hw, rw'⟩ := atI_reps hr hx
        rcases hv with hv | hv
        · exact ix_list value slice pins s σ H _ _ v u Q I rx ry ⟨p0, vs, i, w, rfl, rfl, hv, hw, po_ok p h rw'⟩ hs
        · exact ix_tup value slice pins s σ H _ _ v u Q I rx ry ⟨p0, vs, i, w, rfl, rfl, hv, hw, po_ok p h rw'⟩ hs
    | none =>
      rw [hq] at p
      cases a with
      | str cs =>
        dsimp only at p
        split at p
        · rename_i hl
          cases hx : atI cs i with
          | none => rw [hx] at p; exact p.elim
          | some z =>
            rw [hx] at p
            cases ha
            exact ix_str value slice pins s σ H _ _ v u Q I rx ry ⟨_, i, z, rfl, rfl, by rw [tx_len]; exact lim_le hl, by rw [tx_cps]; exact hx, po_ok p h (rep_str rfl)⟩ hs
        · exact p.elim
      | _ => exact p.elim
  | _ => exact p.elim
theorem ok_ix (c : Cc Γ X) {a b : Expr} {f g : EF} (ha : PE X a (TEf Γ f)) (hb : PE X b (TEf Γ g)) (hs : PlainIx b) : PE X (.Subscript a b pos) (TEf Γ (eB oIx f g)) := pe_of (pe_ix (ix_Seq c) ha hb hs) fun _ _ _ => te_op

/-! ### slices -/
def cut {α : Type} (xs : List α) (lo hi : Option Int) : List α := (xs.drop (HT.sIx xs.length 0 lo)).take (HT.sIx xs.length xs.length hi - HT.sIx xs.length 0 lo)
theorem cut_length {α : Type} (xs : List α) (lo hi : Option Int) : (cut xs lo hi).length ≤ xs.length := by
  unfold cut
  rw [List.length_take, List.length_drop]
  omega
theorem cut_reps {ρ : Rho} {H : Hp} {xs : List PV} {vs : List V} {lo hi : Option Int} (r : Reps Γ ρ H xs vs) : Reps Γ ρ H (cut xs lo hi) (cutV vs lo hi) := by
  unfold cut cutV
  rw [← r.length]
  exact (r.drop _).take _
abbrev PF := En → Sto → R (Option Int)
abbrev rO : Rho → Hp → Option Int → Option Int → Prop := fun _ _ a b => a = b
def TOf (Γ : Ct) (f : PF) : TO := fun σ H Q => ∃ ρ η st, RSt Γ ρ st H ∧ REn Γ ρ H η σ ∧ Po Γ ρ H rO (f η st) Q
def pNone : PF := fun _ st => .ok none st
def pSome (f : EF) : PF := fun η st => (f η st).bind fun v s => match v with
  | .int i => .ok (some i) s
  | _ => .stuck
theorem to_bind {α β : Type} {f : PF} {k : Option Int → Sto → R α} {rep : Rho → Hp → α → β → Prop} {ρ : Rho} {η : En} {st : Sto} {σ : L2.St} {H : Hp} {Q : β → Hp → Prop} (p : Po Γ ρ H rep ((f η st).bind k) Q) (s : RSt Γ ρ st H) (n : REn Γ ρ H η σ) :
    TOf Γ f σ H (fun x H1 => ∃ ρ1 st1, Ext ρ H ρ1 H1 ∧ RSt Γ ρ1 st1 H1 ∧ REn Γ ρ1 H1 η σ ∧ Po Γ ρ1 H1 rep (k x st1) Q) := by
  refine ⟨ρ, η, st, s, n, ?_⟩
  revert p
  cases f η st with
  | stuck => exact fun p => p
  | exc _ _ _ => exact fun p => p
  | ok a st1 => exact fun p ρ1 H1 x e s r => by cases r; exact ⟨ρ1, st1, e, s, n.kp e.kp, Po.ext e p⟩
theorem to_mono {f : PF} {σ : L2.St} {H : Hp} {Q Q' : Option Int → Hp → Prop} (h : TOf Γ f σ H Q) (hq : ∀ x H1, Q x H1 → Q' x H1) : TOf Γ f σ H Q' := by
  obtain ⟨ρ, η, st, s, n, p⟩ := h
  refine ⟨ρ, η, st, s, n, ?_⟩
  revert p
  cases f η st with
  | stuck => exact fun p => p
  | exc _ _ _ => exact fun p => p
  | ok a st1 => exact fun p ρ1 H1 x e s r => hq _ _ (p ρ1 H1 x e s r)
theorem po_of {e : Option Expr} {t t' : TO} (h : PO X e t) (hi : ∀ σ H Q, t' σ H Q → t σ H Q) : PO X e t' := ⟨fun pins s σ H Q I q => h.run pins s σ H Q I (hi σ H Q q)⟩
theorem okp_none : PO X none (TOf Γ pNone) := po_of po_none fun σ H Q ⟨ρ, η, st, s, n, p⟩ => po_ok p s rfl
theorem okp_some {e : Expr} {f : EF} (h : PE X e (TEf Γ f)) : PO X (some e) (TOf Γ (pSome f)) := po_of (po_some h) fun σ H Q ⟨ρ, η, st, s, n, p⟩ =>
  te_mono (te_bind p s n) fun x H1 ⟨ρ1, v, st1, e1, s1, n1, r1, p1⟩ => by
    cases v with
    | int i => cases r1; exact ⟨i, rfl, po_ok p1 s1 rfl⟩
    | _ => exact p1.elim
def oSl (a : PV) (lo hi : Option Int) (st : Sto) : R PV := match a with
  | .tup xs => .ok (.tup (cut xs lo hi)) st
  | .str c => if c.length ≤ LIM then .ok (.str (cut c lo hi)) st else .stuck
  | a => match seqOf st a with
    | some xs => .ok (.lst (cut xs lo hi)) st
    | none => .stuck
def RS (Γ : Ct) : V → Option Int → Option Int → Hp → VK → Prop := fun x lo hi H Q => ∃ ρ st a, RSt Γ ρ st H ∧ Rep Γ ρ H a x ∧ Po Γ ρ H (Rep Γ) (oSl a lo hi st) Q
theorem cut_whole {α : Type} {xs : List α} {lo hi : Option Int} (h1 : HT.sIx xs.length 0 lo = 0) (h2 : HT.sIx xs.length xs.length hi = xs.length) : cut xs lo hi = xs := by
  unfold cut
  rw [h1, h2]
  simp
theorem seqOf_lst {st : Sto} {a : PV} {xs : List PV} (h : seqOf st a = some xs) (ht : ∀ ys, a ≠ .tup ys) {ρ : Rho} {H : Hp} (s : RSt Γ ρ st H) {v : V} (r : Rep Γ ρ H a v) : ∃ p vs, v = .ref p ∧ SqL Γ.K H p vs ∧ Reps Γ ρ H xs vs := by
  cases a with
  | tup ys => exact absurd rfl (ht ys)
  | lst ys => cases h; cases r with | lst t q => exact ⟨_, _, rfl, t.sq, q⟩
  | loc n =>
    cases hn : st[n]? with
    | none => simp [seqOf, hn] at h
    | some o =>
      cases o with
      | lst ys =>
        simp only [seqOf, hn, Option.some.injEq] at h
        subst h
        obtain ⟨a, vs, rfl, e, r', _⟩ := s.isl hn r
        exact ⟨a, vs, rfl, .inl (.inl e), r'⟩
      | _ => simp [seqOf, hn] at h
  | _ => cases h
theorem sl_All (c : Cc Γ X) : SlR X (RS Γ) := by
  rintro pins s σ H x v vl vu lo hi sl Q I rx hs pl pu ⟨ρ, st, a, h, ha, p⟩
  unfold oSl at p
  split at p
  · rename_i xs
    cases ha with
    | tup t r =>
      have t' := t.sq
      rw [← c.K] at t'
      rename_i aa vs
      refine sl_tupA pins s σ H _ v vl vu lo hi sl Q I rx hs pl pu ⟨aa, vs, rfl, t', fun ⟨h1, h2⟩ => ?_, fun _ q hq => ?_⟩
      · rw [← r.length] at h1 h2
        rw [cut_whole h1 h2] at p
        exact po_ok p h (.tup t r)
      · exact p ρ _ _ (ext_new h hq) (rst_new h hq) (.tup (TupAt.new h hq) ((cut_reps r).kp (ext_new h hq).kp))
  · split at p
    · rename_i cs hl
      cases ha
      refine sl_str pins s σ H _ v vl vu lo hi sl Q I rx hs pl pu ⟨_, rfl, by rw [tx_len]; exact lim_le hl, po_ok p h (rep_str ?_)⟩
      unfold cutS cut
      rw [tx_cps, tx_len]
      rfl
    · exact p.elim
  · rename_i h1 h2
    cases hq : seqOf st a with
    | none => rw [hq] at p; exact p.elim
    | some xs =>
      rw [hq] at p
      obtain ⟨p0, vs, rfl, hv, hr⟩ := seqOf_lst hq h1 h ha
      rw [← c.K] at hv
      exact sl_list pins s σ H _ v vl vu lo hi sl Q I rx hs pl pu ⟨p0, vs, rfl, hv, fun q hq => p ρ _ _ (ext_new h hq) (rst_new h hq) (.lst (LstAt.new h hq) ((cut_reps hr).kp (ext_new h hq).kp))⟩
def eSl (f : EF) (l h : PF) : EF := fun η st => (f η st).bind fun a s => (l η s).bind fun lo s => (h η s).bind fun hi s => oSl a lo hi s
theorem ok_sl (c : Cc Γ X) {e : Expr} {lo hi : Option Expr} {p2 : Pos} {f : EF} {l h : PF} (he : PE X e (TEf Γ f)) (hl : PO X lo (TOf Γ l)) (hh : PO X hi (TOf Γ h)) : PE X (.Subscript e (.Slice lo hi none p2) pos) (TEf Γ (eSl f l h)) :=
  pe_of (pe_slice (sl_All c) he hl hh) fun σ H Q ⟨ρ, η, st, s, n, p⟩ =>
    te_mono (te_bind p s n) fun x H1 ⟨ρ1, v, st1, e1, s1, n1, r1, p1⟩ => to_mono (to_bind p1 s1 n1) fun lo H2 ⟨ρ2, st2, e2, s2, n2, p2⟩ => to_mono (to_bind p2 s2 n2) fun hi H3 ⟨ρ3, st3, e3, s3, n3, p3⟩ =>
      ⟨ρ3, st3, v, s3, (r1.kp e2.kp).kp e3.kp, p3⟩

/-! ### + of all -/
theorem op_Add (c : Cc Γ X) : OpR X (binaryOp .Add) (RO Γ oAdd) := by
  rintro pins s σ H x y v u Q I rx ry ⟨ρ, st, a, b, h, ha, hb, p⟩
  unfold oAdd at p
  split at p
  · cases ha; cases hb; exact op_add pins s σ H _ _ v u Q I rx ry ⟨_, _, rfl, rfl, po_ok p h (.int _)⟩
  · split at p
    · rename_i hl
      cases ha; cases hb
      exact op_add_str pins s σ H _ _ v u Q I rx ry ⟨_, _, rfl, rfl, by rw [tx_len, tx_len]; exact lim_le hl, po_ok p h (rep_str (tx_app _ _))⟩
    · exact p.elim
  · split at p
    · rename_i xs ys hl
      cases ha with
      | tup t1 r1 =>
        cases hb with
        | tup t2 r2 =>
          have t1' := t1.sq
          have t2' := t2.sq
          rw [← c.K] at t1' t2'
          refine op_catA pins s σ H _ _ v u Q I rx ry ⟨_, _, _, _, rfl, rfl, t1', t2', by rw [← r1.length, ← r2.length]; exact lim_le hl, fun e => ?_, fun _ e => ?_, fun _ _ q hq => ?_⟩
          · subst e
            cases r1
            exact po_ok p h (.tup t2 r2)
          · subst e
            cases r2
            rw [List.append_nil] at p
            exact po_ok p h (.tup t1 r1)
          · exact p ρ _ _ (ext_new h hq) (rst_new h hq) (.tup (TupAt.new h hq) ((r1.append r2).kp (ext_new h hq).kp))
    · exact p.elim
  · split at p
    · rename_i xs ys hl
      cases ha with
      | lst t1 r1 =>
        cases hb with
        | lst t2 r2 =>
          cases rx
          cases ry
          have t1' := t1.sq
          have t2' := t2.sq
          rw [← c.K] at t1' t2'
          obtain ⟨its, r, ⟨⟨cls, dd, data, sl⟩, n, e, hc, _, hd⟩, _⟩ := I.list t1'
          obtain ⟨its2, r2', ⟨⟨cls2, dd2, data2, sl2⟩, n2, e2, hc2, _, hd2⟩, _⟩ := I.list t2'
          simp only at hc hd hc2 hd2
          subst hc hd hc2 hd2
          have l1 := r.length
          have l2 := r2'.length
          have m1 := r1.length
          have m2 := r2.length
          have hz := lim_le hl
          refine concat_meets ⟨_, e, rfl⟩ ⟨_, e2, rfl⟩ noFill_list_add seq_list_add PySem.F.slot_list_add PySem.F.entry_list_add (PySem.F.args_list_add_2 _ _) (list_addW _ _ its.toArray its2.toArray n n2 dd dd2 sl sl2 (by rw [List.size_toArray, List.size_toArray]; omega)) ⟨e, e2, ?_⟩
          rw [show its.toArray ++ its2.toArray = (its ++ its2).toArray by simp]
          have hq := I.hok.fresh (Nat.le_refl s.heap.objs.size)
          exact ⟨.ref _, _, I.lnew (t' := s.toks) (r.append r2') (by rw [List.length_append]; omega), rfl, p ρ _ _ (ext_new h hq) (rst_new h hq) (.lst (LstAt.new h hq) ((r1.append r2).kp (ext_new h hq).kp))⟩
    · exact p.elim
  · exact p.elim
end
end Pl

set_option Elab.async false
set_option linter.all false
set_option maxRecDepth 100000
/-! Pl, part E: statements, defs, loops, comprehensions. -/
namespace Pl
open PySem PySem.Spec PyProof.Rows L2

/-! ### statements -/
inductive RS' where
  | stuck
  | nx (η : En) (st : Sto)
  | rt (v : PV) (st : Sto)
  | bk (η : En) (st : Sto)
  | ct (η : En) (st : Sto)
  | exc (c : Nat) (fs : List (List Nat × PV)) (η : En) (st : Sto)
abbrev SF := En → Sto → RS'
def PoS (Γ : Ct) (ρ : Rho) (H : Hp) (r : RS') (D : Ends) : Prop := match r with
  | .stuck => False
  | .nx η st => ∀ ρ' H' σ', Ext ρ H ρ' H' → RSt Γ ρ' st H' → REn Γ ρ' H' η σ' → D.nx σ' H'
  | .rt v st => ∀ ρ' H' x, Ext ρ H ρ' H' → RSt Γ ρ' st H' → Rep Γ ρ' H' v x → D.rt x H'
  | .bk η st => ∀ ρ' H' σ', Ext ρ H ρ' H' → RSt Γ ρ' st H' → REn Γ ρ' H' η σ' → D.bk σ' H'
  | .ct η st => ∀ ρ' H' σ', Ext ρ H ρ' H' → RSt Γ ρ' st H' → REn Γ ρ' H' η σ' → D.ct σ' H'
  | .exc _ _ _ _ => False
theorem PoS.ext {Γ : Ct} {ρ ρ1 : Rho} {H H1 : Hp} {r : RS'} {D : Ends} (e : Ext ρ H ρ1 H1) (h : PoS Γ ρ H r D) : PoS Γ ρ1 H1 r D := by
  cases r with
  | stuck => exact h
  | nx η st => exact fun ρ' H' b e' s' r' => h ρ' H' b (e.trans e') s' r'
  | rt η st => exact fun ρ' H' b e' s' r' => h ρ' H' b (e.trans e') s' r'
  | bk η st => exact fun ρ' H' b e' s' r' => h ρ' H' b (e.trans e') s' r'
  | ct η st => exact fun ρ' H' b e' s' r' => h ρ' H' b (e.trans e') s' r'
  | exc _ _ _ _ => exact h
def TSf (Γ : Ct) (F : SF) : TS := fun D σ H => ∃ ρ η st, RSt Γ ρ st H ∧ REn Γ ρ H η σ ∧ PoS Γ ρ H (F η st) D
def R.toS {α : Type} (r : R α) (η : En) (k : α → Sto → RS') : RS' := match r with
  | .stuck => .stuck
  | .ok a s => k a s
  | .exc c fs s => .exc c fs η s
section
variable {X : Cx} {Γ : Ct} {e : Expr} {pos : Pos}
theorem ts_e {f : EF} {k : PV → Sto → RS'} {ρ : Rho} {η : En} {st : Sto} {σ : L2.St} {H : Hp} {D : Ends} (p : PoS Γ ρ H ((f η st).toS η k) D) (s : RSt Γ ρ st H) (n : REn Γ ρ H η σ) :
    TEf Γ f σ H (fun x H1 => ∃ ρ1 a st1, Ext ρ H ρ1 H1 ∧ RSt Γ ρ1 st1 H1 ∧ REn Γ ρ1 H1 η σ ∧ Rep Γ ρ1 H1 a x ∧ PoS Γ ρ1 H1 (k a st1) D) := by
  refine ⟨ρ, η, st, s, n, ?_⟩
  revert p
  cases f η st with
  | stuck => exact fun p => p
  | exc _ _ _ => exact fun p => p
  | ok a st1 => exact fun p ρ1 H1 x e s r => ⟨ρ1, a, st1, e, s, n.kp e.kp, r, p.ext e⟩
theorem ts_b {f : BF} {k : Bool → Sto → RS'} {ρ : Rho} {η : En} {st : Sto} {σ : L2.St} {H : Hp} {D : Ends} (p : PoS Γ ρ H ((f η st).toS η k) D) (s : RSt Γ ρ st H) (n : REn Γ ρ H η σ) :
    TTf Γ f σ H (fun x H1 => ∃ ρ1 st1, Ext ρ H ρ1 H1 ∧ RSt Γ ρ1 st1 H1 ∧ REn Γ ρ1 H1 η σ ∧ PoS Γ ρ1 H1 (k x st1) D) := by
  refine ⟨ρ, η, st, s, n, ?_⟩
  revert p
  cases f η st with
  | stuck => exact fun p => p
  | exc _ _ _ => exact fun p => p
  | ok a st1 => exact fun p ρ1 H1 x e s r => by cases r; exact ⟨ρ1, st1, e, s, n.kp e.kp, p.ext e⟩
theorem ps_of {st : Stmt} {t t' : TS} (h : PS X st t) (hi : ∀ D σ H, t' D σ H → t D σ H) : PS X st t' := ⟨fun pins s σ H D I q => h.run pins s σ H D I (hi D σ H q)⟩
theorem pss_of {st : List Stmt} {t t' : TS} (h : PSs X st t) (hi : ∀ D σ H, t' D σ H → t D σ H) : PSs X st t' := ⟨fun pins s σ H D I q => h.run pins s σ H D I (hi D σ H q)⟩
theorem pos_nx {ρ : Rho} {H : Hp} {η : En} {st : Sto} {σ : L2.St} {D : Ends} (h : PoS Γ ρ H (.nx η st) D) (s : RSt Γ ρ st H) (n : REn Γ ρ H η σ) : D.nx σ H := h ρ H σ (Ext.refl ρ H) s n
theorem pos_rt {ρ : Rho} {H : Hp} {v : PV} {x : V} {st : Sto} {D : Ends} (h : PoS Γ ρ H (.rt v st) D) (s : RSt Γ ρ st H) (n : Rep Γ ρ H v x) : D.rt x H := h ρ H x (Ext.refl ρ H) s n
def sNil : SF := fun η st => .nx η st
def sSeq (f g : SF) : SF := fun η st => match f η st with
  | .nx η' st' => g η' st'
  | r => r
theorem oks_nil : PSs X [] (TSf Γ sNil) := pss_of pss_nil fun D σ H ⟨ρ, η, st, s, n, p⟩ => pos_nx p s n
theorem tsf_mono {F : SF} {D D' : Ends} {σ : L2.St} {H : Hp} (h : TSf Γ F D σ H) (h1 : ∀ σ H, D.nx σ H → D'.nx σ H) (h2 : ∀ x H, D.rt x H → D'.rt x H) (h3 : ∀ σ H, D.bk σ H → D'.bk σ H) (h4 : ∀ σ H, D.ct σ H → D'.ct σ H) : TSf Γ F D' σ H := by
  obtain ⟨ρ, η, st, s, n, p⟩ := h
  refine ⟨ρ, η, st, s, n, ?_⟩
  revert p
  cases F η st with
  | stuck => exact fun p => p
  | nx _ _ => exact fun p ρ' H' σ' e s n => h1 _ _ (p ρ' H' σ' e s n)
  | rt _ _ => exact fun p ρ' H' σ' e s n => h2 _ _ (p ρ' H' σ' e s n)
  | bk _ _ => exact fun p ρ' H' σ' e s n => h3 _ _ (p ρ' H' σ' e s n)
  | ct _ _ => exact fun p ρ' H' σ' e s n => h4 _ _ (p ρ' H' σ' e s n)
  | exc _ _ _ _ => exact fun p => p
theorem ts_seq {F G : SF} {D : Ends} {σ : L2.St} {H : Hp} (h : TSf Γ (sSeq F G) D σ H) : TSf Γ F { D with nx := TSf Γ G D } σ H := by
  obtain ⟨ρ, η, st, s, n, p⟩ := h
  refine ⟨ρ, η, st, s, n, ?_⟩
  unfold sSeq at p
  revert p
  cases F η st with
  | stuck => exact fun p => p
  | nx η' st' => exact fun p ρ' H' σ' e s n => ⟨ρ', η', st', s, n, p.ext e⟩
  | rt _ _ => exact fun p => p
  | bk _ _ => exact fun p => p
  | ct _ _ => exact fun p => p
  | exc _ _ _ _ => exact fun p => p
theorem oks_cons {st : Stmt} {rest : List Stmt} {F G : SF} (h1 : PS X st (TSf Γ F)) (h2 : PSs X rest (TSf Γ G)) : PSs X (st :: rest) (TSf Γ (sSeq F G)) := pss_of (pss_cons h1 h2) fun _ _ _ h => ts_seq h
theorem oks_one {st : Stmt} {F : SF} (h1 : PS X st (TSf Γ F)) : PSs X [st] (TSf Γ F) := pss_one h1
def sRet (f : EF) : SF := fun η st => (f η st).toS η fun v s => .rt v s
theorem ok_ret {f : EF} (h : PE X e (TEf Γ f)) : PS X (.Return (some e) pos) (TSf Γ (sRet f)) := ps_of (ps_ret h) fun D σ H ⟨ρ, η, st, s, n, p⟩ =>
  te_mono (ts_e p s n) fun x H1 ⟨ρ1, a, st1, e1, s1, n1, r1, p1⟩ => pos_rt p1 s1 r1
def sRetN : SF := fun _ st => .rt .non st
theorem ok_retN : PS X (.Return none pos) (TSf Γ sRetN) := ps_of ps_retN fun D σ H ⟨ρ, η, st, s, n, p⟩ => pos_rt p s .non
def sEx (f : EF) : SF := fun η st => (f η st).toS η fun _ s => .nx η s
theorem ok_ex {f : EF} (h : PE X e (TEf Γ f)) (hs : swapsWith e none pos.line X.env = pure false := by rfl) : PS X (.Expr e pos) (TSf Γ (sEx f)) := ps_of (ps_expr h hs) fun D σ H ⟨ρ, η, st, s, n, p⟩ =>
  te_mono (ts_e p s n) fun x H1 ⟨ρ1, a, st1, e1, s1, n1, r1, p1⟩ => pos_nx p1 s1 n1
def sIf (c : BF) (F G : SF) : SF := fun η st => (c η st).toS η fun b s => match b with
  | true => F η s
  | false => G η s
theorem ok_sIf {c : Expr} {a b : List Stmt} {t : BF} {F G : SF} (hc : PT X c (TTf Γ t)) (ha : PSs X a (TSf Γ F)) (hb : PSs X b (TSf Γ G)) : PS X (.If c a b pos) (TSf Γ (sIf t F G)) := ps_of (ps_if hc ha hb) fun D σ H ⟨ρ, η, st, s, n, p⟩ =>
  tt_mono (ts_b p s n) fun b H1 ⟨ρ1, st1, e1, s1, n1, p1⟩ => by
    cases b with
    | true => exact iteT ⟨ρ1, η, st1, s1, n1, p1⟩
    | false => exact iteF ⟨ρ1, η, st1, s1, n1, p1⟩
def sPass : SF := fun η st => .nx η st
def sBrk : SF := fun η st => .bk η st
def sCnt : SF := fun η st => .ct η st
def sNo : SF := fun _ _ => .stuck
theorem ok_pass : PS X (.Pass pos) (TSf Γ sPass) := ps_of ps_pass fun D σ H ⟨ρ, η, st, s, n, p⟩ => pos_nx p s n
theorem ok_brk : PS X (.Break pos) (TSf Γ sBrk) := ps_of ps_break fun D σ H ⟨ρ, η, st, s, n, p⟩ => p ρ H σ (Ext.refl ρ H) s n
theorem ok_cnt : PS X (.Continue pos) (TSf Γ sCnt) := ps_of ps_continue fun D σ H ⟨ρ, η, st, s, n, p⟩ => p ρ H σ (Ext.refl ρ H) s n
theorem ok_no {st : Stmt} : PS X st (TSf Γ sNo) := ps_of ps_never fun D σ H ⟨ρ, η, st, s, n, p⟩ => p
/-! ### slots -/
theorem REn.set {ρ : Rho} {H : Hp} {η : En} {σ : L2.St} {i : Nat} {x : PV} {v : V} (h : REn Γ ρ H η σ) (r : Rep Γ ρ H x v) : REn Γ ρ H (η.set i (some x)) (σ.set i (some v)) := by
  refine ⟨by rw [List.length_set, List.length_set]; exact h.1, fun j y hj => ?_⟩
  by_cases e : i = j
  · subst e
    have hl : i < η.length := by
      have := (List.getElem?_eq_some_iff.mp hj).1
      rwa [List.length_set] at this
    rw [List.getElem?_set_self hl] at hj
    cases hj
    exact ⟨v, List.getElem?_set_self (by rw [← h.1]; exact hl), r⟩
  · rw [List.getElem?_set_ne e] at hj
    obtain ⟨w, a, b⟩ := h.2 j y hj
    exact ⟨w, by rw [List.getElem?_set_ne e]; exact a, b⟩
def sSet (i : Nat) (f : EF) : SF := fun η st => (f η st).toS η fun v s => .nx (η.set i (some v)) s
theorem ok_set {i : Nat} {s : Stmt} {f : EF} {te : TE} (h : PS X s (tAsg te (gName i))) (ht : te = TEf Γ f) : PS X s (TSf Γ (sSet i f)) := ps_of h fun D σ H ⟨ρ, η, st, s, n, p⟩ => by
  subst ht
  exact te_mono (ts_e p s n) fun x H1 ⟨ρ1, a, st1, e1, s1, n1, r1, p1⟩ => pos_nx p1 s1 (n1.set r1)
/-- what is stored to: a slot, a tuple of such -/
inductive Tg where
  | nm (i : Nat)
  | tp (ts : List Tg)
mutual
def Tg.bind : Tg → PV → En → Option En
  | .nm i, v, η => some (η.set i (some v))
  | .tp ts, v, η => match v with
    | .tup xs => Tg.binds ts xs η
    | _ => none
def Tg.binds : List Tg → List PV → En → Option En
  | [], xs, η => match xs with
    | [] => some η
    | _ => none
  | t :: ts, xs, η => match xs with
    | [] => none
    | x :: xs => match Tg.bind t x η with
      | some η' => Tg.binds ts xs η'
      | none => none
end
mutual
def Tg.slots : Tg → List Nat
  | .nm i => [i]
  | .tp ts => Tg.slotss ts
def Tg.slotss : List Tg → List Nat
  | [] => []
  | t :: ts => t.slots ++ Tg.slotss ts
end
def SameBut (is : List Nat) (σ σ' : L2.St) : Prop := ∀ vs : List Nat, (∀ i ∈ is, i ∈ vs) → wipe σ' vs = wipe σ vs
def TGf (Γ : Ct) (t : Tg) : TG := fun v σ H Q => ∃ ρ η x, REn Γ ρ H η σ ∧ Rep Γ ρ H x v ∧ ∃ η', t.bind x η = some η' ∧ ∀ σ', REn Γ ρ H η' σ' → SameBut t.slots σ σ' → Q σ' H
def TGsf (Γ : Ct) (ts : List Tg) : TGs := fun vs σ H Q => ∃ ρ η xs, REn Γ ρ H η σ ∧ Reps Γ ρ H xs vs ∧ ∃ η', Tg.binds ts xs η = some η' ∧ ∀ σ', REn Γ ρ H η' σ' → SameBut (Tg.slotss ts) σ σ' → Q σ' H
theorem pg_of {tg : Expr} {t t' : TG} (h : PG X tg t) (hi : ∀ v σ H Q, t' v σ H Q → t v σ H Q) : PG X tg t' := ⟨fun pins s σ H v u Q I r q => h.run pins s σ H v u Q I r (hi v σ H Q q)⟩
theorem pgs_of {tg : List Expr} {t t' : TGs} (h : PGs X tg t) (hi : ∀ v σ H Q, t' v σ H Q → t v σ H Q) : PGs X tg t' := ⟨fun pins s σ H v u Q I r q => h.run pins s σ H v u Q I r (hi v σ H Q q)⟩
theorem wipe_set {σ : L2.St} {i : Nat} {v : Option V} : ∀ {vs : List Nat}, i ∈ vs → wipe (σ.set i v) vs = wipe σ vs
  | [], h => by cases h
  | j :: vs, h => by
    by_cases e : i ∈ vs
    · unfold wipe; rw [wipe_set e]
    · have : i = j := by
        rcases List.mem_cons.mp h with h | h
        · exact h
        · exact absurd h e
      subst this
      have q : ∀ ws : List Nat, i ∉ ws → wipe (σ.set i v) ws = (wipe σ ws).set i v := by
        intro ws
        induction ws with
        | nil => intro _; rfl
        | cons w ws ih =>
          intro hw
          simp only [List.mem_cons, not_or] at hw
          unfold wipe
          rw [ih hw.2, List.set_comm _ _ hw.1]
      unfold wipe
      rw [q vs e, List.set_set]
theorem okg_nm {i : Nat} {tg : Expr} (h : PG X tg (gName i)) : PG X tg (TGf Γ (.nm i)) := pg_of h fun v σ H Q ⟨ρ, η, x, n, r, η', hb, q⟩ => by
  have e : η' = η.set i (some x) := (Option.some.inj hb).symm
  subst e
  exact q _ (n.set r) fun vs hv => wipe_set (hv i (by simp [Tg.slots]))
theorem okgs_nil : PGs X [] (TGsf Γ []) := pgs_of pgs_nil fun v σ H Q ⟨ρ, η, xs, n, r, η', hb, q⟩ => by
  cases r with
  | nil => cases hb; exact ⟨rfl, q σ n fun _ _ => rfl⟩
  | cons _ _ => cases hb
theorem okgs_cons {es : List Expr} {t : Tg} {ts : List Tg} (h1 : PG X e (TGf Γ t)) (h2 : PGs X es (TGsf Γ ts)) (hs : (assignEach (e :: es) X.env).map (·.2) = assign e X.env :: (assignEach es X.env).map (·.2) := by rfl) : PGs X (e :: es) (TGsf Γ (t :: ts)) :=
  pgs_of (pgs_cons h1 h2 hs) fun v σ H Q ⟨ρ, η, xs, n, r, η', hb, q⟩ => by
    cases r with
    | nil => cases hb
    | cons r1 r2 =>
      simp only [Tg.binds] at hb
      split at hb
      · rename_i η1 h1
        refine ⟨_, _, rfl, ρ, η, _, n, r1, η1, h1, fun σ1 n1 sb1 => ?_⟩
        exact ⟨ρ, η1, _, n1, r2, η', hb, fun σ2 n2 sb2 => q σ2 n2 fun vs hv => by
          rw [sb2 vs fun i hi => hv i (by simp only [Tg.slotss, List.mem_append]; exact .inr hi), sb1 vs fun i hi => hv i (by simp only [Tg.slotss, List.mem_append]; exact .inl hi)]⟩
      · cases hb
theorem okg_tp (c : Cc Γ X) {es : List Expr} {k : Nat} {ts : List Tg} {n : Nat} (h : PGs X es (TGsf Γ ts)) (hn : (assignEach es X.env).length = n := by rfl) (hst : (assignEach es X.env).findIdx? (·.1) = none := by rfl) (hl : ts.length = n := by rfl) : PG X (.Tuple es k pos) (TGf Γ (.tp ts)) :=
  pg_of (pg_tup c.calm h hn hst) fun v σ H Q ⟨ρ, η, x, n', r, η', hb, q⟩ => by
    cases x with
    | tup xs =>
      cases r with
      | tup t r =>
        have t' := t.sq
        rw [← c.K] at t'
        simp only [Tg.bind] at hb
        have len : ∀ (ts : List Tg) (xs : List PV) (η η' : En), Tg.binds ts xs η = some η' → xs.length = ts.length := by
          intro ts
          induction ts with
          | nil => intro xs η η' h; cases xs <;> simp_all [Tg.binds]
          | cons t ts ih =>
            intro xs η η' h
            cases xs with
            | nil => simp [Tg.binds] at h
            | cons x xs =>
              simp only [Tg.binds] at h
              split at h
              · rw [List.length_cons, List.length_cons, ih _ _ _ h]
              · cases h
        refine ⟨_, _, rfl, t', ?_, ρ, η, xs, n', r, η', hb, fun σ' n1 sb => q σ' n1 sb⟩
        rw [← r.length, len _ _ _ _ hb, hl]
    | _ => cases hb
def sAsg (t : Tg) (f : EF) : SF := fun η st => (f η st).toS η fun v s => match t.bind v η with
  | some η' => .nx η' s
  | none => .stuck
theorem ok_asg {tg : Expr} {t : Tg} {f : EF} (he : PE X e (TEf Γ f)) (hg : PG X tg (TGf Γ t)) (hs : swapsWithSole [tg] e pos.line X.env = pure false := by rfl) (hw : swappedStores [tg] e X.env = pure none := by rfl)
    (h1 : (assignEach [tg] X.env).map (·.2) = [assign tg X.env] := by rfl) : PS X (.Assign [tg] e pos) (TSf Γ (sAsg t f)) := ps_of (ps_asg he hg hs hw h1) fun D σ H ⟨ρ, η, st, s, n, p⟩ =>
  te_mono (ts_e p s n) fun x H1 ⟨ρ1, a, st1, e1, s1, n1, r1, p1⟩ => by
    cases hb : t.bind a η with
    | none => simp only [hb] at p1; exact p1.elim
    | some η' =>
      simp only [hb] at p1
      exact ⟨ρ1, η, a, n1, r1, η', hb, fun σ' n2 _ => pos_nx p1 s1 n2⟩
/-- a, b = x, y -/
def sPar (i j : Nat) (f g : EF) : SF := fun η st => (f η st).toS η fun v s => (g η s).toS η fun w s => .nx ((η.set i (some v)).set j (some w)) s
theorem ok_par {i j : Nat} {s : Stmt} {f g : EF} (h : PS X s (tPar i j (TAf Γ (aCons f (aCons g aNil))))) : PS X s (TSf Γ (sPar i j f g)) := ps_of h fun D σ H ⟨ρ, η, st, s, n, p⟩ => by
  refine ⟨ρ, η, st, s, n, ?_⟩
  unfold sPar at p
  unfold aCons
  revert p
  cases f η st with
  | stuck => exact fun p => p
  | exc _ _ _ => exact fun p => p
  | ok a st1 =>
    simp only [R.toS, R.bind]
    cases g η st1 with
    | stuck => exact fun p => p
    | exc _ _ _ => exact fun p => p
    | ok b st2 =>
      simp only [aNil]
      intro p ρ1 H1 x e1 s1 r1
      obtain ⟨v, u, rfl, q1, q2⟩ := reps2 r1
      exact ⟨v, u, rfl, p ρ1 H1 _ e1 s1 (((n.kp e1.kp).set q1).set q2)⟩
def sAug (i : Nat) (o : PV → PV → Sto → R PV) (f : EF) : SF := fun η st => match η[i]? with
  | some (some x) => (f η st).toS η fun v s => (o x v s).toS η fun w s => .nx (η.set i (some w)) s
  | _ => .stuck
theorem ok_aug {i : Nat} {s : Stmt} {o : PV → PV → Sto → R PV} {f : EF} (h : PS X s (tAug i (TEf Γ f) (RO Γ o))) : PS X s (TSf Γ (sAug i o f)) := ps_of h fun D σ H ⟨ρ, η, st, s, n, p⟩ => by
  unfold sAug at p
  cases hi : η[i]? with
  | none => rw [hi] at p; exact p.elim
  | some w =>
    cases w with
    | none => rw [hi] at p; exact p.elim
    | some x =>
      rw [hi] at p
      obtain ⟨v, hv, r⟩ := n.2 i x hi
      refine ⟨v, hv, te_mono (ts_e p s n) fun y H1 ⟨ρ1, a, st1, e1, s1, n1, r1, p1⟩ => ⟨ρ1, st1, x, a, s1, r.kp e1.kp, r1, ?_⟩⟩
      revert p1
      cases o x a st1 with
      | stuck => exact fun p => p
      | exc _ _ _ => exact fun p => p
      | ok z st2 => exact fun p ρ2 H2 w e2 s2 r2 => pos_nx (p.ext e2) s2 ((n1.kp e2.kp).set r2)
end

/-! ### defs -/
def unS (r : RS') : R PV := match r with
  | .stuck => .stuck
  | .nx _ st => .ok .non st
  | .rt v st => .ok v st
  | .bk _ _ => .stuck
  | .ct _ _ => .stuck
  | .exc c fs _ st => .exc c fs st
/-- a def by its body: np parameters, n names in all -/
def fnOf (np n : Nat) (b : SF) (as : List PV) (st : Sto) : R PV := if as.length = np then unS (b (as.map some ++ List.replicate (n - np) none) st) else .stuck
def spF (Γ : Ct) (g : List PV → Sto → R PV) : Sp := fun vs H Q _ => RC Γ g vs H Q
section
variable {P : Program} {Γ : Ct} {mg : Str → Option Value} {base : Heap}
theorem fnOf_len {np n : Nat} {b : SF} {vs : List V} {H : Hp} {Q : VK} {E : XK} (h : spF Γ (fnOf np n b) vs H Q E) : vs.length = np := by
  obtain ⟨ρ, st, as, s, r, p⟩ := h
  unfold fnOf at p
  split at p
  · rename_i hl
    rw [← r.length, hl]
  · exact p.elim
theorem ok_fn {x qual : Str} {st : Stmt} {f : Addr} {fd : FuncData} {N ps : List Str} {k np n : Nat} {b : SF} (F : Fun Γ.K x qual st f fd) (S : FnScope N ps (defScope st)) (hps : ps.length = np) (hn : N.length = n)
    (hb : ∀ (cdv : Value) (A : Around) (outer : List Env) (s : Shared) (H : Hp) (E : XK), Room k (A.deeper (envOfC qual (defScope st) s.heap.objs.size f cdv)) → PSs (cxOf CX0 P Γ.w Γ.K mg base N qual (defScope st) f cdv A outer s H E).nox (defBody st) (TSf Γ b)) :
    FnOk P Γ.w Γ.K mg base CX0 (k + 1) f fd ps (spF Γ (fnOf np n b)) := by
  refine F.ok S (fun vs H Q E h => by rw [fnOf_len h, hps]) fun cdv A outer s H vs Q E hr h => ⟨_, hb cdv A outer s H E hr, ?_⟩
  obtain ⟨ρ, st', as, s', r, p⟩ := h
  unfold fnOf at p
  split at p
  · rename_i hl
    refine ⟨ρ, as.map some ++ List.replicate (n - np) none, st', s', ?_, ?_⟩
    · have e1 : vs.length = np := by rw [← r.length, hl]
      unfold L2.start
      refine ⟨by simp only [List.length_append, List.length_map, List.length_replicate]; rw [hl, e1, hn], fun i x hi => ?_⟩
      by_cases hlt : i < as.length
      · rw [List.getElem?_append_left (by simpa using hlt), List.getElem?_map] at hi
        cases ha : as[i]? with
        | none => rw [ha] at hi; cases hi
        | some y =>
          rw [ha] at hi
          cases hi
          obtain ⟨v, hv, rv⟩ := r.get ha
          refine ⟨v, ?_, rv⟩
          rw [List.getElem?_append_left (by rw [List.length_map, ← r.length]; exact hlt), List.getElem?_map, hv]
          rfl
      · rw [List.getElem?_append_right (by simpa using Nat.le_of_not_lt hlt), List.getElem?_replicate] at hi
        split at hi <;> cases hi
    · revert p
      generalize b (as.map some ++ List.replicate (n - np) none) st' = rr
      cases rr with
      | stuck => exact fun p => p
      | nx η st => exact fun p ρ' H' σ' e s n => p ρ' H' _ e s .non
      | rt v st => exact fun p ρ' H' x e s r => p ρ' H' x e s r
      | bk _ _ => exact fun p => p.elim
      | ct _ _ => exact fun p => p.elim
      | exc _ _ _ _ => exact fun p => p
  · exact p.elim
end
section
variable {X : Cx} {Γ : Ct} {pos : Pos}
/-- a def's call -/
theorem ok_callF {e : Expr} {g : List PV → Sto → R PV} {f : AF} (h : PE X e (tCall (spF Γ g) [] E0 (TAf Γ f))) : PE X e (TEf Γ (eA g f)) := pe_of h fun σ H Q q =>
  ta_mono (te_call q) fun vs H1 z => by
    show spF Γ g (vs ++ []) H1 Q E0
    rw [List.append_nil]
    exact z
theorem ta_nil {σ : L2.St} {H : Hp} {Q : List V → Hp → Prop} (h : TAf Γ aNil σ H Q) : Q [] H := by
  obtain ⟨ρ, η, st, s, n, p⟩ := h
  exact po_ok p s .nil
theorem ok_callF0 {e : Expr} {g : List PV → Sto → R PV} (h : PE X e (tCall (spF Γ g) [] E0 tNil)) : PE X e (TEf Γ (eA g aNil)) := pe_of h fun σ H Q q => by
  show spF Γ g ([] ++ []) H Q E0
  exact ta_nil (te_call q)

/-! ### what is walked -/
/-- the turns give these items, whatever else happens to the store -/
def WalkJ (Γ : Ct) (ρ : Rho) (H : Hp) (items : List PV) (J : It) : Prop := ∀ ρ' st' H', Kp ρ H ρ' H' → RSt Γ ρ' st' H' →
  (∀ i x, items[i]? = some x → J.go i H' ∧ ∀ v H'', J.yld i H' v H'' → Ext ρ' H' ρ' H'' ∧ RSt Γ ρ' st' H'' ∧ Rep Γ ρ' H'' x v) ∧ J.stop items.length H'
theorem WalkJ.kp {ρ ρ1 : Rho} {H H1 : Hp} {items : List PV} {J : It} (e : Kp ρ H ρ1 H1) (w : WalkJ Γ ρ H items J) : WalkJ Γ ρ1 H1 items J := fun ρ' st' H' e' s' => w ρ' st' H' (e.trans e') s'
abbrev IF := En → Sto → R (List PV)
abbrev rW (Γ : Ct) : Rho → Hp → List PV → It → Prop := fun ρ H items J => WalkJ Γ ρ H items J
def TIf (Γ : Ct) (f : IF) : TI := fun σ H R' => ∃ ρ η st, RSt Γ ρ st H ∧ REn Γ ρ H η σ ∧ Po Γ ρ H (rW Γ) (f η st) R'
theorem pi_of {tg e : Expr} {t t' : TI} (h : PI X tg e t) (hi : ∀ σ H Q, t' σ H Q → t σ H Q) : PI X tg e t' := ⟨fun pins s σ H R' I q => h.run pins s σ H R' I (hi σ H R' q)⟩
theorem walk_of' {ρ : Rho} {H : Hp} {items : List PV} {vs : List V} {J : It} {G : Hp → Prop} (w : Walk J vs.length G (YAt vs)) (r : Reps Γ ρ H items vs) (hG : ∀ ρ' H', Kp ρ H ρ' H' → G H') : WalkJ Γ ρ H items J := fun ρ' st' H' e s => by
  refine ⟨fun i x hx => ?_, by rw [r.length]; exact w.stops H' (hG ρ' H' e)⟩
  have hl : i < vs.length := by rw [← r.length]; exact (List.getElem?_eq_some_iff.mp hx).1
  refine ⟨w.goes i H' hl (hG ρ' H' e), fun v H'' y => ?_⟩
  obtain ⟨rfl, hv⟩ := w.yields i H' v H'' hl (hG ρ' H' e) y
  obtain ⟨u, hu, ru⟩ := r.get hx
  rw [hv] at hu
  cases hu
  exact ⟨Ext.refl _ _, s, ru.kp e⟩
def iSeq (f : EF) : IF := fun η st => (f η st).bind fun v s => match v with
  | .tup xs => .ok xs s
  | .lst xs => .ok xs s
  | _ => .stuck
theorem TupAt.ext {ρ ρ' : Rho} {H H' : Hp} {a : Addr} {vs : List V} (e : Kp ρ H ρ' H') (h : TupAt Γ ρ H a vs) : SqT Γ.K H' a vs := (h.kp e).sq
theorem LstAt.ext {ρ ρ' : Rho} {H H' : Hp} {a : Addr} {vs : List V} (e : Kp ρ H ρ' H') (h : LstAt Γ ρ H a vs) : SqL Γ.K H' a vs := (h.kp e).sq
/-- a list or tuple that stands as it is -/
theorem pi_seq (c : Cc Γ X) {tg l : Expr} {f : EF} (hl : PE X l (TEf Γ f)) : PI X tg l (TIf Γ (iSeq f)) := by
  refine ⟨fun pins s σ H R' I ⟨ρ, η, st, h, n, p⟩ => ?_⟩
  refine thn (hl.run pins s σ H _ I (te_bind p h n)) fun v s1 ⟨x, H1, I1, r1, ρ1, a, st1, e1, h1, n1, q1, p1⟩ => ?_
  cases a with
  | tup xs =>
    cases q1 with
    | tup t rr =>
      cases r1
      have t' := t.sq
      rw [← c.K] at t'
      obtain ⟨its, rv, pp, hz⟩ := I1.tuple t'
      refine wpAny_pyIter_tuple (show s1.heap.IsTuple _ its.toArray from pp) ?_
      refine ⟨s1.heap.objs.size, [s1.heap.objs.size], _, _, H1, rfl, I1.kept (t' := s1.toks) fun b o e => Heap.get?_push_of_some _ e, turn_tuple _ _, ⟨_, Heap.get?_push_size _ rfl, rfl, rfl⟩, fun b hb => ?_, ?_⟩
      · have e : b = s1.heap.objs.size := by simpa using hb
        subst e
        exact I1.fpOk (Nat.le_refl _) (I1.hok.fresh (Nat.le_refl _))
      · exact po_ok p1 h1 (walk_of' (walk_tup (K := X.K)) rr fun ρ' H' e => by rw [c.K]; exact t.ext e)
  | lst xs =>
    cases q1 with
    | lst t rr =>
      cases r1
      have t' := t.sq
      rw [← c.K] at t'
      obtain ⟨its, rv, pp, hz⟩ := I1.list t'
      refine wpAny_pyIter_list pp.isList ?_
      refine ⟨s1.heap.objs.size, [s1.heap.objs.size], _, _, H1, rfl, I1.kept (t' := s1.toks) fun b o e => Heap.get?_push_of_some _ e, turn_list _ _, ⟨_, Heap.get?_push_size _ rfl, rfl, rfl⟩, fun b hb => ?_, ?_⟩
      · have e : b = s1.heap.objs.size := by simpa using hb
        subst e
        exact I1.fpOk (Nat.le_refl _) (I1.hok.fresh (Nat.le_refl _))
      · exact po_ok p1 h1 (walk_of' (walk_list (K := X.K)) rr fun ρ' H' e => by rw [c.K]; exact t.ext e)
  | _ => exact p1.elim
def iStrF (f : EF) : IF := fun η st => (f η st).bind fun v s => match v with
  | .str c => .ok (c.map fun x => .str [x]) s
  | _ => .stuck
theorem pi_strF {tg l : Expr} {f : EF} (hl : PE X l (TEf Γ f)) : PI X tg l (TIf Γ (iStrF f)) := pi_of (pi_str hl) fun σ H R' ⟨ρ, η, st, h, n, p⟩ =>
  te_mono (te_bind p h n) fun x H1 ⟨ρ1, a, st1, e1, h1, n1, q1, p1⟩ => by
    cases a with
    | str cs =>
      cases q1
      refine ⟨_, rfl, po_ok p1 h1 fun ρ' st' H' e s => ⟨fun i y hy => ?_, ?_⟩⟩
      · rw [List.getElem?_map] at hy
        cases hc : cs[i]? with
        | none => rw [hc] at hy; cases hy
        | some z =>
          rw [hc] at hy
          cases hy
          have hl : i < (tx cs).cps.size := by
            have := (List.getElem?_eq_some_iff.mp hc).1
            simpa [tx] using this
          refine ⟨walk_str.goes i H' hl trivial, fun v H'' y => ?_⟩
          obtain ⟨rfl, w, hw, rfl⟩ := walk_str.yields i H' v H'' hl trivial y
          have hz : (tx cs).cps[i]? = some z := by simpa [tx] using hc
          rw [hz] at hw
          cases hw
          exact ⟨Ext.refl _ _, s, rep_str rfl⟩
      · have := (walk_str (z := tx cs)).stops H' trivial
        have e2 : (tx cs).cps.size = cs.length := by simp [tx]
        rw [e2] at this
        rw [List.length_map]
        exact this
    | _ => exact p1.elim
def rangeL (lo : Int) (n : Nat) : List PV := (List.range n).map fun (i : Nat) => .int (lo + i)
theorem walk_rng {ρ : Rho} {H : Hp} {lo : Int} {n : Nat} : WalkJ Γ ρ H (rangeL lo n) (Itr lo n) := fun ρ' st' H' e s => by
  refine ⟨fun i y hy => ?_, by simp only [rangeL, List.length_map, List.length_range]; exact walk_range.stops H' trivial⟩
  unfold rangeL at hy
  rw [List.getElem?_map] at hy
  have hl : i < n := by
    cases hc : (List.range n)[i]? with
    | none => rw [hc] at hy; cases hy
    | some z => have := (List.getElem?_eq_some_iff.mp hc).1; simpa using this
  rw [List.getElem?_range hl] at hy
  cases hy
  refine ⟨walk_range.goes i H' hl trivial, fun v H'' y => ?_⟩
  obtain ⟨rfl, rfl⟩ := walk_range.yields i H' v H'' hl trivial y
  exact ⟨Ext.refl _ _, s, .int _⟩
def rgOk (i : Int) : Bool := decide (-(2 ^ 62) ≤ i) && decide (i < 2 ^ 62)
theorem rgOk_iff {i : Int} (h : rgOk i = true) : -(2 ^ 62) ≤ i ∧ i < 2 ^ 62 := by
  unfold rgOk at h
  simpa using h
def iR1 (f : AF) : IF := fun η st => (f η st).bind fun as s => match as with
  | [.int j] => if rgOk j = true then .ok (rangeL 0 j.toNat) s else .stuck
  | _ => .stuck
def iR2 (f : AF) : IF := fun η st => (f η st).bind fun as s => match as with
  | [.int i, .int j] => if (rgOk i && rgOk j) = true then .ok (rangeL i (j - i).toNat) s else .stuck
  | _ => .stuck
theorem pi_r1 {tg e : Expr} {f : AF} (h : PI X tg e (iRng1 (TAf Γ f))) : PI X tg e (TIf Γ (iR1 f)) := pi_of h fun σ H R' ⟨ρ, η, st, h, n, p⟩ =>
  ta_mono (ta_bind p h n) fun x H1 ⟨ρ1, as, st1, e1, h1, n1, q1, p1⟩ => by
    split at p1
    · rename_i j
      split at p1
      · rename_i hj
        obtain ⟨v, rfl, r⟩ := reps1 q1
        cases r
        exact ⟨j, rfl, (rgOk_iff hj).1, (rgOk_iff hj).2, po_ok p1 h1 walk_rng⟩
      · exact p1.elim
    · exact p1.elim
theorem pi_r2 {tg e : Expr} {f : AF} (h : PI X tg e (iRng2 (TAf Γ f))) : PI X tg e (TIf Γ (iR2 f)) := pi_of h fun σ H R' ⟨ρ, η, st, h, n, p⟩ =>
  ta_mono (ta_bind p h n) fun x H1 ⟨ρ1, as, st1, e1, h1, n1, q1, p1⟩ => by
    split at p1
    · rename_i i j
      split at p1
      · rename_i hj
        rw [Bool.and_eq_true] at hj
        obtain ⟨v, u, rfl, r1, r2⟩ := reps2 q1
        cases r1
        cases r2
        have a := rgOk_iff hj.1
        have b := rgOk_iff hj.2
        exact ⟨i, j, rfl, ⟨a.1, a.2, b.1, b.2⟩, po_ok p1 h1 walk_rng⟩
      · exact p1.elim
    · exact p1.elim

/-! ### loops -/
def forL (t : Tg) (F : SF) : List PV → SF
  | [], η, st => .nx η st
  | x :: xs, η, st => match t.bind x η with
    | none => .stuck
    | some η1 => match F η1 st with
      | .nx η2 st2 => forL t F xs η2 st2
      | .ct η2 st2 => forL t F xs η2 st2
      | .bk η2 st2 => .nx η2 st2
      | r => r
def sFor (it : IF) (t : Tg) (F : SF) : SF := fun η st => (it η st).toS η fun items s => forL t F items η s
theorem ti_s {f : IF} {k : List PV → Sto → RS'} {ρ : Rho} {η : En} {st : Sto} {σ : L2.St} {H : Hp} {D : Ends} (p : PoS Γ ρ H ((f η st).toS η k) D) (s : RSt Γ ρ st H) (n : REn Γ ρ H η σ) :
    TIf Γ f σ H (fun J H1 => ∃ ρ1 items st1, Ext ρ H ρ1 H1 ∧ RSt Γ ρ1 st1 H1 ∧ REn Γ ρ1 H1 η σ ∧ WalkJ Γ ρ1 H1 items J ∧ PoS Γ ρ1 H1 (k items st1) D) := by
  refine ⟨ρ, η, st, s, n, ?_⟩
  revert p
  cases f η st with
  | stuck => exact fun p => p
  | exc _ _ _ => exact fun p => p
  | ok a st1 => exact fun p ρ1 H1 x e s r => ⟨ρ1, a, st1, e, s, n.kp e.kp, r, p.ext e⟩
theorem ti_mono {f : IF} {σ : L2.St} {H : Hp} {Q Q' : It → Hp → Prop} (h : TIf Γ f σ H Q) (hq : ∀ x H1, Q x H1 → Q' x H1) : TIf Γ f σ H Q' := by
  obtain ⟨ρ, η, st, s, n, p⟩ := h
  refine ⟨ρ, η, st, s, n, ?_⟩
  revert p
  cases f η st with
  | stuck => exact fun p => p
  | exc _ _ _ => exact fun p => p
  | ok a st1 => exact fun p ρ1 H1 x e s r => hq _ _ (p ρ1 H1 x e s r)
theorem ts_for {it : IF} {t : Tg} {F : SF} {D : Ends} {σ : L2.St} {H : Hp} (h : TSf Γ (sFor it t F) D σ H) : tFor (TIf Γ it) (TGf Γ t) (TSf Γ F) D σ H := by
  obtain ⟨ρ, η, st, s, n, p⟩ := h
  refine ti_mono (ti_s p s n) fun J H1 ⟨ρ1, items, st1, e1, s1, n1, w1, p1⟩ => ?_
  refine ⟨fun i m σ H => ∃ ρ η st rest, items.length = i + rest.length ∧ items.drop i = rest ∧ m = rest.length ∧ RSt Γ ρ st H ∧ REn Γ ρ H η σ ∧ WalkJ Γ ρ H items J ∧ PoS Γ ρ H (forL t F rest η st) D, ⟨_, ρ1, η, st1, items, by simp, rfl, rfl, s1, n1, w1, p1⟩, ?_⟩
  rintro i m σ2 H2 ⟨ρ2, η2, st2, rest, hl, hd, rfl, s2, n2, w2, p2⟩
  cases rest with
  | nil =>
    have := (w2 ρ2 st2 H2 (Kp.refl _ _) s2).2
    have e : items.length = i := by simpa using hl
    rw [e] at this
    exact .inl ⟨this, pos_nx p2 s2 n2⟩
  | cons x xs =>
    have hx : items[i]? = some x := by
      have : (items.drop i)[0]? = some x := by rw [hd]; rfl
      rwa [List.getElem?_drop, Nat.add_zero] at this
    obtain ⟨go, yl⟩ := (w2 ρ2 st2 H2 (Kp.refl _ _) s2).1 i x hx
    refine .inr ⟨go, fun σ' H' => ∃ ρ3 η3 st3, RSt Γ ρ3 st3 H' ∧ REn Γ ρ3 H' η3 σ' ∧ WalkJ Γ ρ3 H' items J ∧ PoS Γ ρ3 H' (forL t F xs η3 st3) D, fun σ' H' ⟨ρ3, η3, st3, s3, n3, w3, p3⟩ => ⟨xs.length, Nat.lt_succ_self _, ρ3, η3, st3, xs, ?_, ?_, rfl, s3, n3, w3, p3⟩, fun v H' y => ?_⟩
    · rw [hl, List.length_cons]; omega
    · have : items.drop (i + 1) = (items.drop i).drop 1 := by rw [List.drop_drop]
      rw [this, hd]; rfl
    · obtain ⟨e3, s3, r3⟩ := yl v H' y
      simp only [forL] at p2
      split at p2
      · exact p2.elim
      · rename_i η1 hb
        refine ⟨ρ2, η2, x, n2.kp e3.kp, r3, η1, hb, fun σ' n4 _ => ⟨ρ2, η1, st2, s3, n4, ?_⟩⟩
        have w3 := w2.kp e3.kp
        have p3 := p2.ext e3
        revert p3
        cases F η1 st2 with
        | stuck => exact fun p => p
        | exc _ _ _ _ => exact fun p => p
        | nx η5 st5 => exact fun p ρ5 H5 σ5 e5 s5 n5 => ⟨ρ5, η5, st5, s5, n5, w3.kp e5.kp, p.ext e5⟩
        | ct η5 st5 => exact fun p ρ5 H5 σ5 e5 s5 n5 => ⟨ρ5, η5, st5, s5, n5, w3.kp e5.kp, p.ext e5⟩
        | bk η5 st5 => exact fun p => p
        | rt v st5 => exact fun p => p
theorem ok_for (c : Cc Γ X) {tg iter : Expr} {body : List Stmt} {it : IF} {t : Tg} {F : SF} (hp : PassesOwn (model X.prog X.w) X.A X.env X.xe) (hi : PI X tg iter (TIf Γ it)) (hg : PG X tg (TGf Γ t)) (hb : PSs X body (TSf Γ F))
    (hs : ∀ x, foldedSetIterable iter X.env x = pure x := by intro _; rfl) : PS X (.For tg iter body [] pos) (TSf Γ (sFor it t F)) := ps_of (ps_for hp c.calm hi hg hb hs) fun _ _ _ h => ts_for h
def whileN (c : BF) (F : SF) : Nat → SF
  | 0, _, _ => .stuck
  | k + 1, η, st => (c η st).toS η fun b s => match b with
    | false => .nx η s
    | true => match F η s with
      | .nx η2 st2 => whileN c F k η2 st2
      | .ct η2 st2 => whileN c F k η2 st2
      | .bk η2 st2 => .nx η2 st2
      | r => r
theorem ts_while {k : Nat} {cc : BF} {F : SF} {D : Ends} {σ : L2.St} {H : Hp} (h : TSf Γ (whileN cc F k) D σ H) : tWhile (TTf Γ cc) (TSf Γ F) D σ H := by
  refine ⟨fun m σ H => TSf Γ (whileN cc F m) D σ H, ⟨k, h⟩, fun m σ H ⟨ρ, η, st, s, n, p⟩ => ?_⟩
  cases m with
  | zero => exact p.elim
  | succ m =>
    refine tt_mono (ts_b p s n) fun b H1 ⟨ρ1, st1, e1, s1, n1, p1⟩ => ?_
    cases b with
    | false => exact iteF (pos_nx p1 s1 n1)
    | true =>
      refine iteT ⟨fun σ' H' => TSf Γ (whileN cc F m) D σ' H', fun σ' H' q => ⟨m, Nat.lt_succ_self m, q⟩, ρ1, η, st1, s1, n1, ?_⟩
      dsimp only at p1
      revert p1
      cases F η st1 with
      | stuck => exact fun p => p
      | exc _ _ _ _ => exact fun p => p
      | nx η5 st5 => exact fun p ρ5 H5 σ5 e5 s5 n5 => ⟨ρ5, η5, st5, s5, n5, p.ext e5⟩
      | ct η5 st5 => exact fun p ρ5 H5 σ5 e5 s5 n5 => ⟨ρ5, η5, st5, s5, n5, p.ext e5⟩
      | bk η5 st5 => exact fun p => p
      | rt v st5 => exact fun p => p
theorem ok_while {c : Expr} {body : List Stmt} {cc : BF} {F : SF} {k : Nat} (hp : PassesOwn (model X.prog X.w) X.A X.env X.xe) (hc : PT X c (TTf Γ cc)) (hb : PSs X body (TSf Γ F)) : PS X (.While c body [] pos) (TSf Γ (whileN cc F k)) := ps_of (ps_while hp hc hb) fun _ _ _ h => ts_while h
end
end Pl

set_option Elab.async false
set_option linter.all false
set_option maxRecDepth 100000
/-! Pl, part F: comprehensions. -/
namespace Pl
open PySem PySem.Spec PyProof.Rows L2

def wipeE (η : En) : List Nat → En
  | [] => η
  | v :: vs => (wipeE η vs).set v none
theorem wipeE_length (η : En) : ∀ vs : List Nat, (wipeE η vs).length = η.length
  | [] => rfl
  | v :: vs => by unfold wipeE; rw [List.length_set, wipeE_length η vs]
theorem wipeE_some {η : En} {i : Nat} {x : PV} : ∀ {vs : List Nat}, (wipeE η vs)[i]? = some (some x) → η[i]? = some (some x) ∧ i ∉ vs
  | [], h => ⟨h, by simp⟩
  | v :: vs, h => by
    unfold wipeE at h
    by_cases hi : v = i
    · subst hi
      by_cases hv : v < (wipeE η vs).length
      · rw [List.getElem?_set_self hv] at h; cases h
      · rw [List.getElem?_eq_none (by simpa using hv)] at h; cases h
    · rw [List.getElem?_set_ne hi] at h
      obtain ⟨h1, h2⟩ := wipeE_some h
      exact ⟨h1, by simp only [List.mem_cons, not_or]; exact ⟨fun e => hi e.symm, h2⟩⟩
theorem wipe_keep {σ : L2.St} {i : Nat} : ∀ {vs : List Nat}, i ∉ vs → (wipe σ vs)[i]? = σ[i]?
  | [], _ => rfl
  | v :: vs, h => by
    simp only [List.mem_cons, not_or] at h
    unfold wipe
    rw [List.getElem?_set_ne (Ne.symm h.1)]
    exact wipe_keep h.2
theorem REn.wipe {Γ : Ct} {ρ : Rho} {H : Hp} {η : En} {σ : L2.St} (n : REn Γ ρ H η σ) (vs : List Nat) : REn Γ ρ H (wipeE η vs) (L2.wipe σ vs) := by
  refine ⟨by rw [wipeE_length, wipe_length]; exact n.1, fun i x hi => ?_⟩
  obtain ⟨h1, h2⟩ := wipeE_some hi
  obtain ⟨v, hv, r⟩ := n.2 i x h1
  exact ⟨v, by rw [wipe_keep h2]; exact hv, r⟩
theorem wipe_wipe (σ : L2.St) (vs : List Nat) : wipe (wipe σ vs) vs = wipe σ vs := by
  apply List.ext_getElem?
  intro i
  by_cases hm : i ∈ vs
  · have key : ∀ (τ : L2.St) (ws : List Nat), i ∈ ws → (wipe τ ws)[i]? = if i < τ.length then some none else none := by
      intro τ ws
      induction ws with
      | nil => intro h; cases h
      | cons w ws ih =>
        intro h
        unfold wipe
        by_cases e : w = i
        · subst e
          by_cases hl : w < τ.length
          · rw [List.getElem?_set_self (by rw [wipe_length]; exact hl), if_pos hl]
          · rw [if_neg hl, List.getElem?_eq_none (by rw [List.length_set, wipe_length]; omega)]
        · rw [List.getElem?_set_ne e]
          exact ih ((List.mem_cons.mp h).resolve_left fun z => e z.symm)
    rw [key _ vs hm, key _ vs hm, wipe_length]
  · rw [wipe_keep hm]

/-! ### a list that grows while it is hidden -/
section
variable {Γ : Ct} {ρ : Rho} {H : Hp} {st : Sto} {D : Addr}
def Rho.hide (ρ : Rho) (D : Addr) : Rho := ⟨ρ.l, D :: ρ.h⟩
def Rho.with (ρ : Rho) (h : List Addr) : Rho := ⟨ρ.l, h⟩
theorem kp_hide (s : H D = none) {o : HO} : Kp ρ H (ρ.hide D) (upd H D o) :=
  ⟨fun _ _ h => h, fun a u h n => by
    have ne : a ≠ D := fun z => by
      subst z
      rcases h with h | ⟨_, h⟩ <;> (rw [s] at h; cases h)
    refine ⟨?_, fun m => ?_⟩
    · rcases h with h | ⟨o', h⟩
      · exact .inl (by rw [upd_ne ne]; exact h)
      · exact .inr ⟨o', by rw [upd_ne ne]; exact h⟩
    · rcases m with m | m
      · exact n (.inl m)
      · rcases List.mem_cons.mp m with m | m
        · exact ne m
        · exact n (.inr m)⟩
theorem rst_hide (s : RSt Γ ρ st H) (hD : H D = none) {o : HO} : RSt Γ (ρ.hide D) st (upd H D o) :=
  ⟨s.len, s.nd, fun i ob a hi ha => (s.at' i ob a hi ha).kp (kp_hide hD) (upd_ne fun z => s.notin hD (.inl (z ▸ List.mem_of_getElem? ha))), fun a ha => by
    rcases List.mem_cons.mp ha with e | ha
    · subst e
      exact ⟨⟨_, upd_same⟩, fun m => s.notin hD (.inl m)⟩
    · obtain ⟨⟨u, e⟩, n⟩ := s.hid a ha
      exact ⟨⟨u, by rw [upd_ne (ne_of_none e hD)]; exact e⟩, n⟩⟩
theorem kp_grow (hD : D ∈ ρ.h) {o : HO} : Kp ρ H ρ (upd H D o) :=
  ⟨fun _ _ h => h, fun a u h n => by
    have ne : a ≠ D := fun z => n (.inr (z ▸ hD))
    refine ⟨?_, n⟩
    rcases h with h | ⟨o', h⟩
    · exact .inl (by rw [upd_ne ne]; exact h)
    · exact .inr ⟨o', by rw [upd_ne ne]; exact h⟩⟩
theorem rst_grow (s : RSt Γ ρ st H) (hD : D ∈ ρ.h) {o : HO} : RSt Γ ρ st (upd H D o) :=
  ⟨s.len, s.nd, fun i ob a hi ha => (s.at' i ob a hi ha).kp (kp_grow hD) (upd_ne fun z => (s.hid D hD).2 (z ▸ List.mem_of_getElem? ha)), fun a ha => by
    obtain ⟨⟨u, e⟩, n⟩ := s.hid a ha
    refine ⟨?_, n⟩
    by_cases z : a = D
    · subst z; exact ⟨_, upd_same⟩
    · exact ⟨u, by rw [upd_ne z]; exact e⟩⟩
theorem kp_bare {h : List Addr} (hs : ∀ a ∈ h, a ∈ ρ.h) : Kp ρ H (ρ.with h) H :=
  ⟨fun _ _ h => h, fun a u hr n => ⟨hr, fun m => n (m.imp id fun z => hs a z)⟩⟩
theorem rst_bare {h : List Addr} (s : RSt Γ ρ st H) (hs : ∀ a ∈ h, a ∈ ρ.h) : RSt Γ (ρ.with h) st H :=
  ⟨s.len, s.nd, fun i ob a hi ha => (s.at' i ob a hi ha).kp (kp_bare hs) rfl, fun a ha => s.hid a (hs a ha)⟩
end

/-! ### [e for t in it if c] -/
def bYes : BF := fun _ st => .ok true st
def lcL (t : Tg) (c : BF) (f : EF) (η : En) : List PV → Sto → R (List PV)
  | [], st => .ok [] st
  | x :: xs, st => match t.bind x η with
    | none => .stuck
    | some η1 => (c η1 st).bind fun b s => match b with
      | true => (f η1 s).bind fun v s => (lcL t c f η xs s).bind fun vs s => .ok (v :: vs) s
      | false => lcL t c f η xs s
def eLC (it : IF) (own : List Nat) (t : Tg) (c : BF) (f : EF) : EF := fun η st => (it η st).bind fun items s => (lcL t c f (wipeE η own) items s).bind mkLst
section
variable {X : Cx} {Γ : Ct} {pos : Pos}
theorem bind_ok {α β : Type} {r : R α} {k : α → Sto → R β} {b : β} {s : Sto} (h : r.bind k = .ok b s) : ∃ a s1, r = .ok a s1 ∧ k a s1 = .ok b s := by
  cases r with
  | stuck => cases h
  | ok a s1 => exact ⟨a, s1, rfl, h⟩
  | exc _ _ _ => cases h
theorem po_is {α β : Type} {ρ : Rho} {H : Hp} {rep : Rho → Hp → α → β → Prop} {r : R α} {Q : β → Hp → Prop} (h : Po Γ ρ H rep r Q) : ∃ a s, r = .ok a s := by
  cases r with
  | stuck => exact h.elim
  | ok a s => exact ⟨a, s, rfl⟩
  | exc _ _ _ => exact h.elim
theorem ti_bind {α β : Type} {f : IF} {k : List PV → Sto → R α} {rep : Rho → Hp → α → β → Prop} {ρ : Rho} {η : En} {st : Sto} {σ : L2.St} {H : Hp} {Q : β → Hp → Prop} (p : Po Γ ρ H rep ((f η st).bind k) Q) (s : RSt Γ ρ st H) (n : REn Γ ρ H η σ) :
    TIf Γ f σ H (fun J H1 => ∃ ρ1 items st1, Ext ρ H ρ1 H1 ∧ RSt Γ ρ1 st1 H1 ∧ REn Γ ρ1 H1 η σ ∧ WalkJ Γ ρ1 H1 items J ∧ Po Γ ρ1 H1 rep (k items st1) Q) := by
  refine ⟨ρ, η, st, s, n, ?_⟩
  revert p
  cases f η st with
  | stuck => exact fun p => p
  | exc _ _ _ => exact fun p => p
  | ok a st1 => exact fun p ρ1 H1 x e s r => ⟨ρ1, a, st1, e, s, n.kp e.kp, r, Po.ext e p⟩
theorem rbind_assoc {α β γ : Type} (r : R α) (f : α → Sto → R β) (g : β → Sto → R γ) : (r.bind f).bind g = r.bind fun a s => (f a s).bind g := by
  cases r <;> rfl
theorem te_lc {it : IF} {own : List Nat} {t : Tg} {cc : BF} {f : EF} (ht : ∀ i ∈ t.slots, i ∈ own) {σ : L2.St} {H : Hp} {Q : VK} (h : TEf Γ (eLC it own t cc f) σ H Q) : tLc (TIf Γ it) (TGf Γ t) (TTf Γ cc) (TEf Γ f) own σ H Q := by
  obtain ⟨ρ0, η, st0, s0, n0, p0⟩ := h
  refine ti_mono (ti_bind p0 s0 n0) fun J H1 ⟨ρ1, items, st1, e1, s1, n1, w1, p1⟩ D hD => ?_
  refine ⟨fun i m H => ∃ ρ st rest accP accV, items.length = i + rest.length ∧ items.drop i = rest ∧ m = rest.length ∧ ρ.h = D :: ρ1.h ∧ RSt Γ ρ st H ∧ REn Γ ρ H (wipeE η own) (wipe σ own) ∧ Kp ρ1 H1 ρ H ∧ Ext ρ1 H1 (ρ.with ρ1.h) H ∧ H D = some (.lst accV) ∧ Reps Γ ρ H accP accV ∧
    Po Γ ρ1 H1 (Rep Γ) ((lcL t cc f (wipeE η own) rest st).bind fun vs s => mkLst (accP ++ vs) s) Q,
    ⟨_, ρ1.hide D, st1, items, [], [], by simp, rfl, rfl, rfl, rst_hide s1 hD, (n1.kp (kp_hide hD)).wipe own, kp_hide hD, ?_, upd_same, .nil, p1⟩, ?_⟩
  · exact ⟨⟨[], by simp [Rho.with, Rho.hide]⟩, rfl, fun a o ha n => ⟨by rw [upd_ne (ne_of_none ha hD)]; exact ha, n⟩⟩
  rintro i m H2 ⟨ρ, st, rest, accP, accV, hl, hd, rfl, hh, s, n, k, ex, hDv, hacc, p⟩
  have memD : D ∈ ρ.h := by rw [hh]; simp
  have sub : ∀ a ∈ ρ1.h, a ∈ ρ.h := fun a ha => by rw [hh]; exact List.mem_cons_of_mem _ ha
  have nD1 : H1 D = none := hD
  cases rest with
  | nil =>
    have := (w1 ρ st H2 k s).2
    have e : items.length = i := by simpa using hl
    rw [e] at this
    refine .inl ⟨this, ?_⟩
    simp only [lcL, R.bind, List.append_nil] at p
    obtain ⟨v, s', hm⟩ := po_is p
    rw [hm] at p
    unfold mkLst at hm
    split at hm
    · cases hm
      refine p (ρ.with ρ1.h) H2 _ ex (rst_bare s sub) (.lst (.inl ⟨.inl hDv, fun z => ?_⟩) (hacc.kp (kp_bare sub)))
      rcases z with z | z
      · exact (s.hid D memD).2 z
      · obtain ⟨⟨u, hu⟩, _⟩ := s1.hid D z
        rw [nD1] at hu; cases hu
    · cases hm
  | cons x xs =>
    have hx : items[i]? = some x := by
      have : (items.drop i)[0]? = some x := by rw [hd]; rfl
      rwa [List.getElem?_drop, Nat.add_zero] at this
    obtain ⟨go, yl⟩ := (w1 ρ st H2 k s).1 i x hx
    refine .inr ⟨go, fun H' => ∃ ρ' st' accP' accV', ρ'.h = D :: ρ1.h ∧ RSt Γ ρ' st' H' ∧ REn Γ ρ' H' (wipeE η own) (wipe σ own) ∧ Kp ρ1 H1 ρ' H' ∧ Ext ρ1 H1 (ρ'.with ρ1.h) H' ∧ H' D = some (.lst accV') ∧ Reps Γ ρ' H' accP' accV' ∧
      Po Γ ρ1 H1 (Rep Γ) ((lcL t cc f (wipeE η own) xs st').bind fun vs s => mkLst (accP' ++ vs) s) Q, fun H' ⟨ρ', st', accP', accV', a1, a2, a3, a4, a5, a6, a7, a8⟩ => ⟨xs.length, Nat.lt_succ_self _, ρ', st', xs, accP', accV', ?_, ?_, rfl, a1, a2, a3, a4, a5, a6, a7, a8⟩, fun v H' y => ?_⟩
    · rw [hl, List.length_cons]; omega
    · have : items.drop (i + 1) = (items.drop i).drop 1 := by rw [List.drop_drop]
      rw [this, hd]; rfl
    · obtain ⟨e3, s3, r3⟩ := yl v H' y
      -- an extension of the hidden view is one of the bare view
      have bare : ∀ {ρ' : Rho} {Ha Hb : Hp} {ρa : Rho}, ρa.h = D :: ρ1.h → Ext ρ1 H1 (ρa.with ρ1.h) Ha → Ext ρa Ha ρ' Hb → Ext ρ1 H1 (ρ'.with ρ1.h) Hb := fun {ρ' Ha Hb ρa} hha xa xb =>
        xa.trans ⟨xb.pre, rfl, fun a o ha na => xb.keep a o ha na⟩
      simp only [lcL] at p
      split at p
      · obtain ⟨v, s', hm⟩ := po_is p
        cases hm
      · rename_i η1 hb
        refine ⟨ρ, _, x, n.kp e3.kp, r3, η1, hb, fun σ2 n2 sb => ⟨by rw [sb own ht, wipe_wipe], ρ, η1, st, s3, n2, ?_⟩⟩
        rw [rbind_assoc] at p
        have kc : Po Γ ρ1 H1 (Rep Γ) ((cc η1 st).bind fun b s => (match b with | true => (f η1 s).bind fun v s => (lcL t cc f (wipeE η own) xs s).bind fun vs s => R.ok (v :: vs) s | false => lcL t cc f (wipeE η own) xs s).bind fun vs s => mkLst (accP ++ vs) s) Q := p
        revert kc
        clear p
        cases cc η1 st with
        | stuck => exact fun p => p
        | exc _ _ _ => exact fun p => p
        | ok b st4 =>
          intro kc ρ4 H4 b' e4 s4 hb'
          cases hb'
          have h4 : ρ4.h = D :: ρ1.h := by rw [e4.hd, hh]
          have hD4 : H4 D = some (.lst accV) := (e4.keep D _ (e3.keep D _ hDv (s.hid D memD).2).1 (s.hid D memD).2).1
          have ex4 := bare hh (bare hh ex e3) e4
          have k4 := (k.trans e3.kp).trans e4.kp
          cases b with
          | false => exact iteF ⟨ρ4, st4, accP, accV, h4, s4, n.kp (e3.kp.trans e4.kp), k4, ex4, hD4, hacc.kp (e3.kp.trans e4.kp), kc⟩
          | true =>
            refine iteT ⟨ρ4, η1, st4, s4, n2.kp e4.kp, ?_⟩
            have kc2 : Po Γ ρ1 H1 (Rep Γ) (((f η1 st4).bind fun v s => (lcL t cc f (wipeE η own) xs s).bind fun vs s => R.ok (v :: vs) s).bind fun vs s => mkLst (accP ++ vs) s) Q := kc
            rw [rbind_assoc] at kc2
            revert kc2
            cases f η1 st4 with
            | stuck => exact fun p => p
            | exc _ _ _ => exact fun p => p
            | ok w st5 =>
              intro kc2 ρ5 H5 u e5 s5 r5
              have h5 : ρ5.h = D :: ρ1.h := by rw [e5.hd, h4]
              have mem5 : D ∈ ρ5.h := by rw [h5]; simp
              have hD5 : H5 D = some (.lst accV) := (e5.keep D _ hD4 (s4.hid D (by rw [h4]; simp)).2).1
              have ex5 := bare h4 ex4 e5
              have kc3 : Po Γ ρ1 H1 (Rep Γ) (((lcL t cc f (wipeE η own) xs st5).bind fun vs s => R.ok (w :: vs) s).bind fun vs s => mkLst (accP ++ vs) s) Q := kc2
              rw [rbind_assoc] at kc3
              have hlen : accV.length < sizeLine := by
                obtain ⟨v', s', hm⟩ := po_is kc3
                obtain ⟨vs, s6, _, hm⟩ := bind_ok hm
                have hm : mkLst (accP ++ w :: vs) s6 = .ok v' s' := hm
                unfold mkLst at hm
                split at hm
                · rename_i hle
                  rw [List.length_append, List.length_cons] at hle
                  rw [← hacc.length]
                  exact lim_lt (by omega)
                · cases hm
              have kcs : ∀ o, Kp ρ5 H5 ρ5 (upd H5 D o) := fun o => kp_grow mem5
              have kk := (e3.kp.trans e4.kp).trans e5.kp
              refine ⟨accV, hD5, hlen, ρ5, st5, accP ++ [w], accV ++ [u], h5, rst_grow s5 mem5, (n.kp kk).kp (kcs _), ((k4.trans e5.kp).trans (kcs _)), ?_, upd_same, ((hacc.kp kk).append (.cons r5 .nil)).kp (kcs _), ?_⟩
              · refine ⟨ex5.pre, ex5.hd, fun a o ha na => ?_⟩
                obtain ⟨q1, q2⟩ := ex5.keep a o ha na
                exact ⟨by rw [upd_ne (ne_of_none ha nD1)]; exact q1, q2⟩
              · have : (fun (vs : List PV) (s : Sto) => mkLst (accP ++ [w] ++ vs) s) = fun vs s => mkLst (accP ++ w :: vs) s := by
                  funext vs s
                  rw [List.append_assoc]; rfl
                rw [this]
                exact kc3
theorem ok_lc {elt tg iter : Expr} {ifs : List Expr} {scope : Scope} {own : List Nat} {it : IF} {t : Tg} {cc : BF} {f : EF} (h : PE X (.ListComp elt [⟨tg, iter, ifs, 0⟩] scope pos) (tLc (TIf Γ it) (TGf Γ t) (TTf Γ cc) (TEf Γ f) own)) (ht : ∀ i ∈ t.slots, i ∈ own) :
    PE X (.ListComp elt [⟨tg, iter, ifs, 0⟩] scope pos) (TEf Γ (eLC it own t cc f)) := pe_of h fun _ _ _ => te_lc ht
theorem okts_nil : PTs X [] (TTf Γ bYes) := ⟨fun pins s σ H Q I ⟨ρ, η, st, h, n, p⟩ => pts_nil.run pins s σ H Q I (po_ok p h rfl)⟩
end
end Pl

set_option Elab.async false
set_option linter.all false
set_option maxRecDepth 100000
/-! Pl, part G: a dict by keys of any kind. -/
namespace Pl
open PySem PySem.Spec PyProof.Rows L2

/-- an entry: key, the key's value, value -/
abbrev Ent := NestedKey × Value × Value
def entD (w : World) (x : Ent) : DictEntry := ⟨x.1.hash w, x.2.1, x.2.2⟩
/-- a dict's entries in the heap -/
structure DRaw (w : World) (h : Heap) (d : Addr) (xs : List Ent) : Prop where
  nd : (xs.map (·.1)).Nodup
  ks : ∀ x ∈ xs, NestedIs h x.1 x.2.1 ∧ x.1.depth ≤ 8
  ob : ∃ (o : Obj) (es : Array DictEntry) (ep : Nat), h.get? d = some o ∧ o.ExactDict ∧ o.data = .dict es ep ∧ es.toList = xs.map (entD w)
def flatK : NestedKey → Bool
  | .tup _ => false
  | _ => true
theorem flat_byValue {h : Heap} {k : NestedKey} {v : Value} (x : NestedIs h k v) (f : flatK k = true) : carriedByValue v = true := by
  cases x with
  | tup _ _ _ _ => cases f
  | _ => rfl
theorem tup_ref {h : Heap} {k : NestedKey} {v : Value} (x : NestedIs h k v) (f : flatK k = false) : ∃ a, v = .ref a := by
  cases x with
  | tup _ _ _ _ => exact ⟨_, rfl⟩
  | _ => cases f
/-- a look-up that the model follows: a tuple is sought, or all keys are carried by value -/
def okLook (k : NestedKey) (xs : List Ent) : Bool := !flatK k || xs.all fun x => flatK x.1
section
variable {prog : Program} {w : World} {A : Around} {E : Value → Shared → Prop} {s : Shared} {d : Addr} {o : Obj} {es : Array DictEntry} {ep : Nat} {xs : List Ent} {k : NestedKey} {key : Value}
theorem ent_at (he : es.toList = xs.map (entD w)) (j : Nat) : es[j]? = (xs[j]?).map (entD w) := by
  rw [← Array.getElem?_toList, he, List.getElem?_map]
theorem ent_size (he : es.toList = xs.map (entD w)) : es.size = xs.length := by
  have := congrArg List.length he
  simpa using this
theorem key_once (hn : (xs.map (·.1)).Nodup) {i j : Nat} {p q : Value × Value} (hx : xs[i]? = some (k, p)) (hy : xs[j]? = some (k, q)) : i = j := by
  have hi : (xs.map (·.1))[i]? = some k := by rw [List.getElem?_map, hx]; rfl
  have hj : (xs.map (·.1))[j]? = some k := by rw [List.getElem?_map, hy]; rfl
  exact (List.getElem?_inj (List.getElem?_eq_some_iff.mp hi).1 hn).mp (hi.trans hj.symm)
theorem may_not (hkey : NestedIs s.heap k key ∧ k.depth ≤ 8) {stored : List Value} {Q : Bool → Shared → Prop} (hst : ∀ v ∈ stored, ∃ k', NestedIs s.heap k' v ∧ k'.depth ≤ 8) (h : Q false s) : wpAny (model prog w) A (tableMayTell key stored) Q E s := by
  unfold tableMayTell
  split
  · exact wpAny_pure h
  · refine wpAny_bind (quiet_key k key 8 s hkey.1 hkey.2 A E _ ?_)
    simp only [Bool.not_true, Bool.false_eq_true, if_false]
    refine wpAny_bind ?_
    refine wpAny_forIn_list _ (fun rest r s' => (s' = s ∧ r = (none, ())) ∧ ∀ v ∈ rest, ∃ k', NestedIs s.heap k' v ∧ k'.depth ≤ 8) _ ?_ ?_ _ _ ⟨⟨rfl, rfl⟩, hst⟩
    · rintro x rest r s' ⟨⟨rfl, rfl⟩, hr⟩
      obtain ⟨k', hb⟩ := hr x List.mem_cons_self
      refine wpAny_bind (quiet_key k' x 8 s' hb.1 hb.2 A E _ ?_)
      simp only [Bool.not_true, Bool.false_eq_true, if_false]
      exact wpAny_pure ⟨⟨rfl, rfl⟩, fun v hv => hr v (List.mem_cons_of_mem _ hv)⟩
    · rintro r s' ⟨⟨rfl, rfl⟩, _⟩
      exact wpAny_pure h
theorem ask_eq {x y : NestedKey} {a b : Value} {Q : Bool → Shared → Prop} (hu : A.units + 8 < cLine) (hx : NestedIs s.heap x a ∧ x.depth ≤ 8) (hy : NestedIs s.heap y b) (h : Q (decide (x = y)) s) : wpAny (model prog w) A (eqBool a b) Q E s := by
  have hb := hx.2
  exact eqAt_key x y A s a b hx.1 hy (by omega) _ _ _ _ (by rw [← NestedKey.decide_eq]; exact h)
theorem dfind {Q : Option Nat → Shared → Prop} (hu : A.units + 8 < cLine) (hkey : NestedIs s.heap k key ∧ k.depth ≤ 8) (ho : s.heap.get? d = some o) (hd : o.data = .dict es ep) (he : es.toList = xs.map (entD w))
    (his : ∀ x ∈ xs, NestedIs s.heap x.1 x.2.1 ∧ x.1.depth ≤ 8) (hn : (xs.map (·.1)).Nodup) (hl : okLook k xs = true)
    (hnone : (∀ (j : Nat) (p : Value × Value), xs[j]? ≠ some (k, p)) → Q none s) (hsome : ∀ (j : Nat) (p : Value × Value), xs[j]? = some (k, p) → Q (some j) s) :
    wpAny (model prog w) A (dictFind d key (k.hash w)) Q E s := by
  have hsz := ent_size he
  have hit : ∀ (j : Nat) (p : Value × Value), xs[j]? = some (k, p) → ((es[j]?.map (·.hash)) == some (k.hash w)) = true := by
    intro j p hj
    rw [ent_at he j, hj]
    simp [entD]
  have hmem : ∀ e ∈ es, ∃ x ∈ xs, e = entD w x := by
    intro e hin
    have z : e ∈ xs.map (entD w) := he ▸ Array.mem_toList_iff.mpr hin
    obtain ⟨x, hx, q⟩ := List.mem_map.mp z
    exact ⟨x, hx, q.symm⟩
  -- the entry at a place that is looked at
  have place : ∀ {x : Nat} {rest : List Nat} {i : Nat}, x :: rest = (List.range' i (es.size - i)).filter (fun i => (es[i]?.map (·.hash)) == some (k.hash w)) →
      i ≤ x ∧ x < es.size ∧ (∀ j, i ≤ j → j < x → ∀ p, xs[j]? ≠ some (k, p)) ∧ rest = (List.range' (x + 1) (es.size - (x + 1))).filter (fun i => (es[i]?.map (·.hash)) == some (k.hash w)) ∧ ∃ y : Ent, xs[x]? = some y ∧ es[x]? = some (entD w y) := by
    intro x rest i hr
    obtain ⟨hix, hxn, hpx, hskip, hrest⟩ := filter_range'_cons _ _ _ _ _ hr.symm
    have hlt : x < es.size := by omega
    have hlx : x < xs.length := by rw [← hsz]; exact hlt
    refine ⟨hix, hlt, fun j h1 h2 p hj => ?_, ?_, xs[x], List.getElem?_eq_getElem hlx, by rw [ent_at he x, List.getElem?_eq_getElem hlx]; rfl⟩
    · have := hskip j h1 h2
      rw [hit j p hj] at this
      exact absurd this (by decide)
    · rw [hrest]; congr 2; omega
  have over : ∀ {i : Nat}, [] = (List.range' i (es.size - i)).filter (fun i => (es[i]?.map (·.hash)) == some (k.hash w)) → ∀ j, i ≤ j → ∀ p, xs[j]? ≠ some (k, p) := by
    intro i hr j hij p hj
    have hjl : j < es.size := by
      rw [hsz]
      exact (List.getElem?_eq_some_iff.mp hj).1
    have := List.filter_eq_nil_iff.mp hr.symm j (List.mem_range'_1.mpr ⟨hij, by omega⟩)
    rw [hit j p hj] at this
    exact this rfl
  have start0 : placesWithHash es.size (fun i => es[i]?.map (·.hash)) (k.hash w) = (List.range' 0 (es.size - 0)).filter (fun i => (es[i]?.map (·.hash)) == some (k.hash w)) := by rw [placesWithHash, List.range_eq_range', Nat.sub_zero]
  have plain : wpAny (model prog w) A (dictWalkPlain d key (k.hash w) es (placesWithHash es.size (fun i => es[i]?.map (·.hash)) (k.hash w))) Q E s := by
    refine wpAny_bind ?_
    refine wpAny_forIn_list _ (fun rest b s' => (s' = s ∧ b = (none, ())) ∧ ∃ i, rest = (List.range' i (es.size - i)).filter (fun i => (es[i]?.map (·.hash)) == some (k.hash w)) ∧ ∀ j, j < i → ∀ p, xs[j]? ≠ some (k, p)) _ ?_ ?_ _ _ ⟨⟨rfl, rfl⟩, 0, start0, fun _ z => absurd z (Nat.not_lt_zero _)⟩
    · rintro x rest b s' ⟨⟨rfl, rfl⟩, i, hr, hno⟩
      obtain ⟨hix, hlt, hskip, hrest, ⟨k', kv, v'⟩, hxx, hex⟩ := place hr
      have next : k' ≠ k → ∃ i, rest = (List.range' i (es.size - i)).filter (fun i => (es[i]?.map (·.hash)) == some (k.hash w)) ∧ ∀ j, j < i → ∀ p, xs[j]? ≠ some (k, p) := fun hne =>
        ⟨x + 1, hrest, fun j hj p hp => by
          rcases Nat.lt_or_ge j i with q | q
          · exact hno j q p hp
          · rcases Nat.lt_or_ge j x with q' | q'
            · exact hskip j q q' p hp
            · have : j = x := by omega
              subst this
              rw [hxx] at hp
              cases hp
              exact hne rfl⟩
      rw [hex]
      dsimp only [entD]
      by_cases hh : (k'.hash w == k.hash w) = true
      · rw [if_pos hh]
        refine wpAny_bind (wpAny_dictEpoch ho hd (wpAny_bind (ask_eq hu (his _ (List.mem_of_getElem? hxx)) hkey.1 (wpAny_bind (wpAny_dictEpoch ho hd ?_)))))
        show wpAny _ _ (if (ep != ep) = true then _ else _) _ E _
        rw [if_neg (by simp)]
        by_cases hkk : k' = k
        · rw [decide_eq_true hkk]
          subst hkk
          exact wpAny_bind (wpAny_rule (wpAny_pure (wpAny_pure (hsome x _ hxx))))
        · rw [decide_eq_false hkk]
          exact wpAny_bind (wpAny_rule (wpAny_pure ⟨⟨rfl, rfl⟩, next hkk⟩))
      · rw [if_neg hh]
        exact wpAny_pure ⟨⟨rfl, rfl⟩, next fun q => hh (by rw [q]; exact beq_self_eq_true _)⟩
    · rintro b s' ⟨⟨rfl, rfl⟩, i, hr, hno⟩
      exact wpAny_pure (hnone fun j p hj => (Nat.lt_or_ge j i).elim (fun q => hno j q p hj) fun q => over hr j q p hj)
  unfold dictFind
  try with_reducible refine wpAny_holding ?_
  refine wpAny_bind (wpAny_dictEntries ho hd ?_)
  dsimp only
  have stored_is : ∀ v ∈ (placesWithHash es.size (fun i => es[i]?.map (·.hash)) (k.hash w)).filterMap (fun i => es[i]?.map (·.key)), ∃ x ∈ xs, v = x.2.1 := by
    intro v hv
    obtain ⟨i, _, hi⟩ := List.mem_filterMap.mp hv
    cases hei : es[i]? with
    | none => rw [hei] at hi; cases hi
    | some e =>
      rw [hei] at hi
      obtain ⟨x, hx, rfl⟩ := hmem e (Array.mem_of_getElem? hei)
      exact ⟨x, hx, (Option.some.inj hi).symm⟩
  cases hf : flatK k with
  | true =>
    have hflat : ∀ x ∈ xs, flatK x.1 = true := by
      unfold okLook at hl
      rw [hf] at hl
      simpa using hl
    have hby : ((key :: (placesWithHash es.size (fun i => es[i]?.map (·.hash)) (k.hash w)).filterMap fun i => es[i]?.map (·.key)).all carriedByValue) = true := by
      rw [List.all_cons, flat_byValue hkey.1 hf, Bool.true_and, List.all_eq_true]
      intro v hv
      obtain ⟨x, hx, rfl⟩ := stored_is v hv
      exact flat_byValue (his x hx).1 (hflat x hx)
    rw [if_pos hby]
    split
    next x t =>
      split
      next hstrs =>
        have hk : k = .text x := by
          have := hkey.1
          cases this
          rfl
        subst hk
        -- an entry is of the text sought just where the texts are one
        have same : ∀ y ∈ xs, y.2.1.isStr x = decide (y.1 = .text x) := by
          intro y hy
          have q := Array.all_eq_true'.mp hstrs (entD w y) (Array.mem_toList_iff.mp (by rw [he]; exact List.mem_map_of_mem hy))
          have z := (his y hy).1
          obtain ⟨yk, yv, yo⟩ := y
          simp only [entD] at q z ⊢
          cases z with
          | text a t => simp only [Value.isStr, NestedKey.text.injEq]; exact Bool.eq_iff_iff.mpr (by simp)
          | _ => simp [isExactStrKey] at q
        unfold foundByValue
        cases hi : es.findIdx? (fun e => e.key.isStr x) with
        | none =>
          refine wpAny_pure (hnone fun j p hj => ?_)
          have q := Array.findIdx?_eq_none_iff.mp hi (entD w (.text x, p)) (Array.mem_toList_iff.mp (by rw [he]; exact List.mem_map_of_mem (List.mem_of_getElem? hj)))
          have z := same _ (List.mem_of_getElem? hj)
          simp only [entD] at q
          simp only [decide_true] at z
          rw [z] at q
          simp at q
        | some i =>
          obtain ⟨hlt, hi', _⟩ := Array.findIdx?_eq_some_iff_getElem.mp hi
          have hlx : i < xs.length := by rw [← hsz]; exact hlt
          have hxx : xs[i]? = some xs[i] := List.getElem?_eq_getElem hlx
          have hex : es[i]? = some (entD w xs[i]) := by rw [ent_at he i, hxx]; rfl
          have hg : es[i] = entD w xs[i] := by rw [Array.getElem?_eq_getElem hlt] at hex; exact Option.some.inj hex
          rw [hg] at hi'
          have hm : xs[i] ∈ xs := List.getElem_mem hlx
          have z := same _ hm
          generalize hv : xs[i] = y at z hi' hex hxx hm
          obtain ⟨yk, yv, yo⟩ := y
          simp only [entD] at hi' z
          rw [hi'] at z
          have hk' : yk = .text x := of_decide_eq_true z.symm
          subst hk'
          dsimp only
          rw [hex]
          dsimp only [entD]
          refine wpAny_bind (wpAny_dictEpoch ho hd (wpAny_bind (ask_eq hu (his _ hm) hkey.1 (wpAny_bind (wpAny_dictEpoch ho hd ?_)))))
          show wpAny _ _ (if (ep != ep) = true then _ else _) _ E _
          rw [if_neg (by simp), decide_eq_true rfl]
          exact wpAny_bind (wpAny_rule (wpAny_pure (hsome i _ hxx)))
      next => exact plain
    next => exact plain
  | false =>
    obtain ⟨a, rfl⟩ := tup_ref hkey.1 hf
    dsimp only
    rw [if_neg (show ¬ ((Value.ref a :: (placesWithHash es.size (fun i => es[i]?.map (·.hash)) (k.hash w)).filterMap (fun i => es[i]?.map (·.key))).all carriedByValue) = true by simp [carriedByValue])]
    have hany : ¬ (es.any fun e => e.key == Value.ref a && e.hash != k.hash w) = true := by
      rw [← Array.any_toList, List.any_eq_true]
      rintro ⟨e, hin, hc⟩
      obtain ⟨x, hx, rfl⟩ := hmem e (Array.mem_toList_iff.mp hin)
      simp only [entD, Bool.and_eq_true, beq_iff_eq, bne_iff_ne, ne_eq] at hc
      have z := (his x hx).1
      rw [hc.1] at z
      exact hc.2 (by rw [NestedIs.inj _ _ _ z hkey.1])
    rw [if_neg hany]
    have hst : ∀ v ∈ (placesWithHash es.size (fun i => es[i]?.map (·.hash)) (k.hash w)).filterMap (fun i => es[i]?.map (·.key)), ∃ k', NestedIs s.heap k' v ∧ k'.depth ≤ 8 := fun v hv => by
      obtain ⟨x, hx, rfl⟩ := stored_is v hv
      exact ⟨x.1, his x hx⟩
    by_cases hone : (((placesWithHash es.size (fun i => es[i]?.map (·.hash)) (k.hash w)).filterMap (fun i => es[i]?.map (·.key))) == [Value.ref a]) = true <;>
    (first | rw [if_pos hone] | rw [if_neg hone]) <;> (first | refine wpAny_bind (wpAny_pure ?_) | refine wpAny_bind (may_not hkey hst ?_)) <;> (
      rw [if_neg (by simp)]
      refine wpAny_bind ?_
      refine wpAny_forIn_list _ (fun rest b s' => s' = s ∧ ∃ i hit, b = (none, hit) ∧ rest = (List.range' i (es.size - i)).filter (fun i => (es[i]?.map (·.hash)) == some (k.hash w)) ∧
        ((hit = none ∧ ∀ j, j < i → ∀ p, xs[j]? ≠ some (k, p)) ∨ ∃ j p, hit = some j ∧ j < i ∧ xs[j]? = some (k, p))) _ ?_ ?_ _ _ ⟨rfl, 0, none, rfl, start0, .inl ⟨rfl, fun _ z => absurd z (Nat.not_lt_zero _)⟩⟩
      · rintro x rest b s' ⟨rfl, i, hit', rfl, hr, hH⟩
        obtain ⟨hix, hlt, hskip, hrest, ⟨k', kv, v'⟩, hxx, hex⟩ := place hr
        have before : (hit' = none ∧ ∀ j, j < x → ∀ p, xs[j]? ≠ some (k, p)) ∨ ∃ j p, hit' = some j ∧ j < x ∧ xs[j]? = some (k, p) := by
          rcases hH with ⟨h0, hno⟩ | ⟨j, p, h1, hji, hj⟩
          · exact .inl ⟨h0, fun j hjx p hp => (Nat.lt_or_ge j i).elim (fun q => hno j q p hp) fun q => hskip j q hjx p hp⟩
          · exact .inr ⟨j, p, h1, by omega, hj⟩
        have stay : k' ≠ k → (hit' = none ∧ ∀ j, j < x + 1 → ∀ p, xs[j]? ≠ some (k, p)) ∨ ∃ j p, hit' = some j ∧ j < x + 1 ∧ xs[j]? = some (k, p) := by
          intro hne
          rcases before with ⟨h0, hno⟩ | ⟨j, p, h1, hjx, hj⟩
          · refine .inl ⟨h0, fun j hj p hp => (Nat.lt_or_ge j x).elim (fun q => hno j q p hp) fun q => ?_⟩
            have : j = x := by omega
            subst this
            rw [hxx] at hp
            cases hp
            exact hne rfl
          · exact .inr ⟨j, p, h1, by omega, hj⟩
        rw [hex]
        dsimp only [entD]
        by_cases hh : (k'.hash w == k.hash w) = true
        · rw [if_pos hh]
          refine wpAny_bind (wpAny_dictEpoch ho hd (wpAny_bind (ask_eq hu (his _ (List.mem_of_getElem? hxx)) hkey.1 (wpAny_bind (wpAny_dictEpoch ho hd ?_)))))
          show wpAny _ _ (if (ep != ep) = true then _ else _) _ E _
          rw [if_neg (by simp)]
          by_cases hkk : k' = k
          · rw [decide_eq_true hkk]
            subst hkk
            rcases before with ⟨rfl, _⟩ | ⟨j, p, _, hjx, hj⟩
            · first | rw [if_pos rfl] | skip
              simp only [Option.isSome_none, Bool.false_eq_true, if_false]
              first | refine wpAny_bind (wpAny_pure ?_) | skip
              refine wpAny_bind (wpAny_rule ?_)
              split
              · exact wpAny_pure (wpAny_pure (hsome x _ hxx))
              · exact wpAny_pure ⟨rfl, x + 1, some x, rfl, hrest, .inr ⟨x, _, rfl, Nat.lt_succ_self x, hxx⟩⟩
            · exact absurd (key_once hn hj hxx) (by omega)
          · rw [decide_eq_false hkk]
            simp only [Bool.false_eq_true, if_false]
            refine wpAny_bind (wpAny_rule ?_)
            first | rw [if_neg (by simp)] | skip
            first
              | exact wpAny_pure ⟨rfl, x + 1, hit', rfl, hrest, stay hkk⟩
              | exact wpAny_bind (wpAny_pure (wpAny_pure ⟨rfl, x + 1, hit', rfl, hrest, stay hkk⟩))
        · rw [if_neg hh]
          exact wpAny_pure ⟨rfl, x + 1, hit', rfl, hrest, stay fun q => hh (by rw [q]; exact beq_self_eq_true _)⟩
      · rintro b s' ⟨rfl, i, hit', rfl, hr, hH⟩
        rcases hH with ⟨rfl, hno⟩ | ⟨j, p, rfl, _, hj⟩
        · exact wpAny_pure (hnone fun j p hj => (Nat.lt_or_ge j i).elim (fun q => hno j q p hj) fun q => over hr j q p hj)
        · exact wpAny_pure (hsome j p hj))
end
end Pl

set_option Elab.async false
set_option linter.all false
set_option maxRecDepth 100000
/-! Pl, part H: dicts by values. -/
namespace Pl
open PySem PySem.Spec PyProof.Rows L2

def findE (xs : List Ent) (k : NestedKey) : Option Value := (xs.find? fun x => decide (x.1 = k)).map (·.2.2)
def putE (xs : List Ent) (k : NestedKey) (key v : Value) : List Ent := if (findE xs k).isSome = true then xs.map fun x => if x.1 = k then (x.1, x.2.1, v) else x else xs ++ [(k, key, v)]
section
variable {xs : List Ent} {k : NestedKey}
theorem findE_at (hn : (xs.map (·.1)).Nodup) {j : Nat} {p : Value × Value} (h : xs[j]? = some (k, p)) : findE xs k = some p.2 := by
  unfold findE
  cases e : xs.find? (fun x => decide (x.1 = k)) with
  | none =>
    have := List.find?_eq_none.mp e _ (List.mem_of_getElem? h)
    simp at this
  | some y =>
    have hk : y.1 = k := by simpa using List.find?_some e
    obtain ⟨i, hi⟩ := List.mem_iff_getElem?.mp (List.mem_of_find?_eq_some e)
    obtain ⟨yk, yv⟩ := y
    cases hk
    have := key_once hn hi h
    subst this
    rw [hi] at h
    cases h
    rfl
theorem findE_not (h : ∀ (j : Nat) (p : Value × Value), xs[j]? ≠ some (k, p)) : findE xs k = none := by
  unfold findE
  cases e : xs.find? (fun x => decide (x.1 = k)) with
  | none => rfl
  | some y =>
    have hk : y.1 = k := by simpa using List.find?_some e
    obtain ⟨i, hi⟩ := List.mem_iff_getElem?.mp (List.mem_of_find?_eq_some e)
    obtain ⟨yk, yv⟩ := y
    cases hk
    exact absurd hi (h i yv)
end
section
variable {prog : Program} {w : World} {A : Around} {E : Value → Shared → Prop} {s : Shared} {d : Addr} {xs : List Ent} {k : NestedKey} {key : Value}
theorem DRaw.typeIs (m : DRaw w s.heap d xs) : s.TypeIs (.ref d) "dict" := let ⟨o, _, _, ho, hc, _⟩ := m.ob; ⟨o, ho, hc.1⟩
theorem DRaw.noDict (m : DRaw w s.heap d xs) : ∀ b, Value.ref d = .ref b → ∃ ob, s.heap.get? b = some ob ∧ ob.dict = none := fun b e => by
  cases e
  obtain ⟨o, _, _, ho, hc, _⟩ := m.ob
  exact ⟨o, ho, hc.2.1⟩
theorem dget {Q : Option Value → Shared → Prop} (hu : A.units + 8 < cLine) (hkey : NestedIs s.heap k key ∧ k.depth ≤ 8) (m : DRaw w s.heap d xs) (hl : okLook k xs = true) (h : ∀ n, Q (findE xs k) { s with toks := s.toks + n }) :
    wpAny (model prog w) A (dictGet d key) Q E s := by
  obtain ⟨hn, his, o, es, ep, ho, _, hd, he⟩ := m
  unfold dictGet
  try with_reducible refine wpAny_holding ?_
  have hdp := hkey.2
  refine wpAny_bind (pyHash_key k key A s _ hkey.1 (by omega) (wpAny_bind (dfind (s := { s with toks := s.toks + k.draws }) hu hkey ho hd he his hn hl (fun hno => ?_) fun j p hj => ?_)))
  · have := h k.draws
    rw [findE_not hno] at this
    exact wpAny_pure this
  · have := h k.draws
    rw [findE_at hn hj] at this
    refine wpAny_bind (wpAny_dictEntries (s := { s with toks := s.toks + k.draws }) ho hd ?_)
    rw [ent_at he j, hj]
    exact wpAny_pure this
theorem ks_same {h h' : Heap} {o : Obj} {es : Array DictEntry} {ep : Nat} (ho : h.get? d = some o) (hd : o.data = .dict es ep) (hs : Heap.SameBut d h h') {x : NestedKey} {v : Value} (n : NestedIs h x v) : NestedIs h' x v :=
  NestedIs.at (fun b ob vs n hb hc => by
    refine (hs.2 b fun e => ?_).trans hb
    subst e
    rw [ho] at hb
    cases hb
    rw [hd] at hc
    cases hc) x v n
theorem modify_eq {v : Value} (hn : (xs.map (·.1)).Nodup) : ∀ {j : Nat} {p : Value × Value}, xs[j]? = some (k, p) → (xs.map (entD w)).modify j (fun e => { e with val := v }) = (xs.map fun x => if x.1 = k then (x.1, x.2.1, v) else x).map (entD w) := by
  induction xs with
  | nil => intro j p h; simp at h
  | cons x xs ih =>
    intro j p h
    rw [List.map_cons, List.nodup_cons] at hn
    cases j with
    | zero =>
      have e : x = (k, p) := by simpa using h
      subst e
      have hr : (xs.map fun x => if x.1 = k then (x.1, x.2.1, v) else x) = xs := by
        refine (List.map_congr_left fun y hy => ?_).trans (List.map_id xs)
        rw [if_neg fun q => hn.1 (List.mem_map.mpr ⟨y, hy, q⟩)]
        rfl
      rw [List.map_cons, List.map_cons, List.map_cons, hr, if_pos rfl]
      rfl
    | succ j =>
      have h' : xs[j]? = some (k, p) := by simpa using h
      have hne : ¬ x.1 = k := fun q => hn.1 (List.mem_map.mpr ⟨(k, p), List.mem_of_getElem? h', q.symm⟩)
      rw [List.map_cons, List.map_cons, List.map_cons, if_neg hne, List.modify_succ_cons, ih hn.2 h']
theorem putE_nodup (hn : (xs.map (·.1)).Nodup) {v : Value} : ((putE xs k key v).map (·.1)).Nodup := by
  unfold putE
  split
  · rw [List.map_map]
    have : (fun x : Ent => x.1) ∘ (fun x : Ent => if x.1 = k then (x.1, x.2.1, v) else x) = fun x => x.1 := by
      funext x
      simp only [Function.comp]
      split <;> rfl
    rw [this]
    exact hn
  · rename_i hs
    rw [List.map_append, List.nodup_append]
    refine ⟨hn, by simp, fun a ha b hb e => hs ?_⟩
    simp only [List.map_cons, List.map_nil, List.mem_singleton] at hb
    subst hb
    subst e
    obtain ⟨y, hy, rfl⟩ := List.mem_map.mp ha
    obtain ⟨i, hi⟩ := List.mem_iff_getElem?.mp hy
    rw [findE_at hn (p := y.2) hi]
    rfl
theorem putE_ks {h : Heap} (his : ∀ x ∈ xs, NestedIs h x.1 x.2.1 ∧ x.1.depth ≤ 8) (hkey : NestedIs h k key ∧ k.depth ≤ 8) {v : Value} : ∀ x ∈ putE xs k key v, NestedIs h x.1 x.2.1 ∧ x.1.depth ≤ 8 := by
  unfold putE
  split
  · intro x hx
    obtain ⟨y, hy, rfl⟩ := List.mem_map.mp hx
    split <;> exact his y hy
  · intro x hx
    rcases List.mem_append.mp hx with hx | hx
    · exact his x hx
    · simp only [List.mem_singleton] at hx
      subst hx
      exact hkey
theorem dset {v : Value} {Q : Unit → Shared → Prop} (hu : A.units + 8 < cLine) (hkey : NestedIs s.heap k key ∧ k.depth ≤ 8) (m : DRaw w s.heap d xs) (hl : okLook k xs = true) (hz : xs.length ≤ sizeLine)
    (h : ∀ h' n, DRaw w h' d (putE xs k key v) → Heap.SameBut d s.heap h' → Q () { s with heap := h', toks := s.toks + n }) : wpAny (model prog w) A (dictSet d key v) Q E s := by
  have m0 := m
  obtain ⟨hn, his, o, es, ep, ho, hc, hd, he⟩ := m
  have hdp := hkey.2
  unfold dictSet
  try with_reducible refine wpAny_holding ?_
  refine wpAny_bind (pyHash_key k key A s _ hkey.1 (by omega) ?_)
  unfold dictSetHashed
  try with_reducible refine wpAny_holding ?_
  refine wpAny_bind (dfind (s := { s with toks := s.toks + k.draws }) hu hkey ho hd he his hn hl (fun hno => ?_) fun j p hj => ?_)
  · have hf := findE_not hno
    have hput : putE xs k key v = xs ++ [(k, key, v)] := by unfold putE; rw [hf]; rfl
    refine wpAny_bind (wpAny_rule (wpAny_updateDictKeys (hz := by rw [ent_size he]; exact hz) (s := { s with toks := s.toks + k.draws }) ho hd ?_))
    have hs : Heap.SameBut d s.heap (s.heap.update d fun ob => ob.mapDictKeys fun es => es.push ⟨k.hash w, key, v⟩) := Heap.SameBut.update ..
    refine h _ k.draws ⟨putE_nodup hn, putE_ks (fun x hx => ⟨ks_same ho hd hs (his x hx).1, (his x hx).2⟩) ⟨ks_same ho hd hs hkey.1, hkey.2⟩, _, _, ep + 1, Heap.get?_update_self _ ho (Obj.isFreed_of_dict (Obj.data_mapDictKeys hd _)), hc.mapDictKeys _, Obj.data_mapDictKeys hd _, ?_⟩ hs
    rw [hput, Array.toList_push, he, List.map_append]
    rfl
  · have hf := findE_at hn hj
    have hput : putE xs k key v = xs.map fun x => if x.1 = k then (x.1, x.2.1, v) else x := by unfold putE; rw [hf]; rfl
    have hs : Heap.SameBut d s.heap (s.heap.update d fun ob => ob.mapDict fun es => es.modify j fun e => { e with val := v }) := Heap.SameBut.update ..
    refine wpAny_bind (wpAny_rule (wpAny_bind (wpAny_updateDict (s := { s with toks := s.toks + k.draws }) ho hd (wpAny_point ?_))))
    refine h _ k.draws ⟨putE_nodup hn, putE_ks (fun x hx => ⟨ks_same ho hd hs (his x hx).1, (his x hx).2⟩) ⟨ks_same ho hd hs hkey.1, hkey.2⟩, _, _, ep, Heap.get?_update_self _ ho (Obj.isFreed_of_dict (Obj.data_mapDict hd _)), hc.mapDict _, Obj.data_mapDict hd _, ?_⟩ hs
    rw [hput, Array.toList_modify, he]
    exact modify_eq hn hj

/-! ### the operations of a dict -/
variable (hd : (d == sysModules) = false)
include hd
theorem dhas {Q : Bool → Shared → Prop} (hu : A.units + 9 < cLine) (hkey : NestedIs s.heap k key ∧ k.depth ≤ 8) (m : DRaw w s.heap d xs) (hl : okLook k xs = true) (h : ∀ n, Q (findE xs k).isSome { s with toks := s.toks + n }) :
    wpAny (model prog w) A (contains (.ref d) key) Q E s := by
  have hT := m.typeIs
  unfold contains
  try with_reducible refine wpAny_holding ?_
  refine wpAny_bind (wpAny_specialOf hT slot_dict_contains.lookup ?_)
  show wpAny _ _ (if (some (Value.builtin "dict.__contains__") == some Value.none) = true then _ else _) _ E s
  rw [if_neg (by rw [beq_builtin_none]; exact Bool.false_ne_true)]
  refine wpAny_bind (wpAny_callSpecialUnlessNone?_slot (name := Str.ofString "__contains__") hT slot_dict_contains (wpAny_call_entry slot_dict_contains hT entry_dict_contains ?_ (args_dict_contains _ _)))
  show wpAny _ A.in1 (dictGet d key >>= _) _ _ s
  refine wpAny_bind (dget (by simp only [Around.in1_units]; omega) hkey m hl fun n => ?_)
  have hq := h n
  cases hf : findE xs k with
  | some v =>
    rw [hf] at hq
    exact (show wpAny _ _ (ret (.bool true)) _ _ _ from wpAny_pure ⟨_, rfl, wpAny_truthy_bool hq⟩)
  | none =>
    rw [hf] at hq
    show wpAny _ _ (Builtin.Dict.pendingKey? d key >>= _) _ _ _
    exact wpAny_bind (wpAny_pendingKey_other hd (wpAny_pure ⟨_, rfl, wpAny_truthy_bool hq⟩))
theorem dd_in {Q : Value → Shared → Prop} (hu : A.units + 9 < cLine) (hkey : NestedIs s.heap k key ∧ k.depth ≤ 8) (m : DRaw w s.heap d xs) (hl : okLook k xs = true) (h : ∀ n, Q (.bool (findE xs k).isSome) { s with toks := s.toks + n }) :
    wpAny (model prog w) A (compareOp .In key (.ref d)) Q E s :=
  (show wpAny _ _ (do return .bool (← contains (.ref d) key)) Q E s from wpAny_bind (dhas hd hu hkey m hl fun n => wpAny_pure (h n)))
theorem dd_notIn {Q : Value → Shared → Prop} (hu : A.units + 9 < cLine) (hkey : NestedIs s.heap k key ∧ k.depth ≤ 8) (m : DRaw w s.heap d xs) (hl : okLook k xs = true) (h : ∀ n, Q (.bool (!(findE xs k).isSome)) { s with toks := s.toks + n }) :
    wpAny (model prog w) A (compareOp .NotIn key (.ref d)) Q E s :=
  (show wpAny _ _ (do return .bool (!(← contains (.ref d) key))) Q E s from wpAny_bind (dhas hd hu hkey m hl fun n => wpAny_pure (h n)))
theorem dd_get {Q : Value → Shared → Prop} {v : Value} (hu : A.units + 9 < cLine) (hkey : NestedIs s.heap k key ∧ k.depth ≤ 8) (m : DRaw w s.heap d xs) (hl : okLook k xs = true) (hv : findE xs k = some v) (h : ∀ n, Q v { s with toks := s.toks + n }) :
    wpAny (model prog w) A (getItem (.ref d) key) Q E s := by
  have hT := m.typeIs
  unfold getItem
  try with_reducible refine wpAny_holding ?_
  refine wpAny_bind (wpAny_sequenceKey hT (by decide) ?_)
  refine wpAny_bind (wpAny_callSpecial?_slot (name := Str.ofString "__getitem__") hT slot_dict_getitem (wpAny_call_entry slot_dict_getitem hT entry_dict_getitem ?_ (args_dict_getitem _ _)))
  show wpAny _ A.in1 (dictGet d key >>= _) _ _ s
  refine wpAny_bind (dget (by simp only [Around.in1_units]; omega) hkey m hl fun n => ?_)
  rw [hv]
  exact wpAny_pure ⟨v, rfl, wpAny_pure (h n)⟩
theorem dd_set {Q : Unit → Shared → Prop} {v : Value} (hu : A.units + 9 < cLine) (hkey : NestedIs s.heap k key ∧ k.depth ≤ 8) (m : DRaw w s.heap d xs) (hl : okLook k xs = true) (hz : xs.length ≤ sizeLine)
    (h : ∀ h' n, DRaw w h' d (putE xs k key v) → Heap.SameBut d s.heap h' → Q () { s with heap := h', toks := s.toks + n }) : wpAny (model prog w) A (setItem (.ref d) key v) Q E s := by
  have hT := m.typeIs
  unfold setItem
  try with_reducible refine wpAny_holding ?_
  refine wpAny_bind (wpAny_sequenceKey hT (by decide) ?_)
  refine wpAny_bind (wpAny_callSpecial?_slot (name := Str.ofString "__setitem__") hT slot_dict_setitem (wpAny_call_entry slot_dict_setitem hT entry_dict_setitem ?_ (args_dict_setitem _ _ _)))
  show wpAny _ A.in1 (Builtin.Dict.notOrdered "__setitem__" ⟨[.ref d, key, v], []⟩ >>= _) _ _ s
  refine wpAny_bind (wpAny_notOrdered_dict hT ?_)
  show wpAny _ _ (dictSet d key v >>= _) _ _ s
  exact wpAny_bind (dset (by simp only [Around.in1_units]; omega) hkey m hl hz fun h' n m' hs => wpAny_pure ⟨.none, rfl, wpAny_pure (h h' n m' hs)⟩)
/-- d.get(k, x) by the builtin -/
theorem dd_get2 {Q : Value → Shared → Prop} {x : Value} (hu : A.units + 9 < cLine) (hkey : NestedIs s.heap k key ∧ k.depth ≤ 8) (m : DRaw w s.heap d xs) (hl : okLook k xs = true) (h : ∀ n, Q ((findE xs k).getD x) { s with toks := s.toks + n }) :
    wpAny (model prog w) A (call (.builtin "dict.get") [.ref d, key, x]) Q E s := by
  have hT := m.typeIs
  refine wpAny_call_entry PySem.F.slot_dict_get hT PySem.F.entry_dict_get ?_ (PySem.F.args_dict_get_3 _ _ _)
  show wpAny _ A.in1 (dictGet d key >>= _) _ _ s
  refine wpAny_bind (dget (by simp only [Around.in1_units]; omega) hkey m hl fun n => ?_)
  have hq := h n
  cases hf : findE xs k with
  | some v =>
    rw [hf] at hq
    exact wpAny_pure ⟨v, rfl, hq⟩
  | none =>
    rw [hf] at hq
    show wpAny _ _ (Builtin.Dict.missed d key >>= _) _ _ _
    exact wpAny_bind (wpAny_missed_other hd (wpAny_pure ⟨x, rfl, hq⟩))
theorem dd_get1 {Q : Value → Shared → Prop} (hu : A.units + 9 < cLine) (hkey : NestedIs s.heap k key ∧ k.depth ≤ 8) (m : DRaw w s.heap d xs) (hl : okLook k xs = true) (h : ∀ n, Q ((findE xs k).getD .none) { s with toks := s.toks + n }) :
    wpAny (model prog w) A (call (.builtin "dict.get") [.ref d, key]) Q E s := by
  have hT := m.typeIs
  refine wpAny_call_entry PySem.F.slot_dict_get hT PySem.F.entry_dict_get ?_ (PySem.F.args_dict_get_2 _ _)
  show wpAny _ A.in1 (dictGet d key >>= _) _ _ s
  refine wpAny_bind (dget (by simp only [Around.in1_units]; omega) hkey m hl fun n => ?_)
  have hq := h n
  cases hf : findE xs k with
  | some v =>
    rw [hf] at hq
    exact wpAny_pure ⟨v, rfl, hq⟩
  | none =>
    rw [hf] at hq
    show wpAny _ _ (Builtin.Dict.missed d key >>= _) _ _ _
    exact wpAny_bind (wpAny_missed_other hd (wpAny_pure ⟨.none, rfl, hq⟩))
end
end Pl

set_option Elab.async false
set_option linter.all false
set_option maxRecDepth 100000
/-! Pl, part I: dicts of plain values. -/
namespace Pl
open PySem PySem.Spec PyProof.Rows L2

/-! ### keys -/
mutual
def PV.hk : Nat → PV → Bool
  | _, .non => true
  | _, .bl _ => true
  | _, .int _ => true
  | _, .str _ => true
  | 0, .tup _ => false
  | n + 1, .tup xs => PV.hks n xs
  | _, .lst _ => false
  | _, .dct _ => false
  | _, .loc _ => false
  | _, .ty _ => false
def PV.hks : Nat → List PV → Bool
  | _, [] => true
  | n, x :: xs => PV.hk n x && PV.hks n xs
end
mutual
theorem PV.hk_key : ∀ (n : Nat) (x : PV), x.hk n = true → ∃ k, x.key = some k ∧ k.depth ≤ n
  | n, .non, _ => ⟨_, rfl, Nat.zero_le _⟩
  | n, .bl _, _ => ⟨_, rfl, Nat.zero_le _⟩
  | n, .int _, _ => ⟨_, rfl, Nat.zero_le _⟩
  | n, .str _, _ => ⟨_, rfl, Nat.zero_le _⟩
  | 0, .tup _, h => by simp [PV.hk] at h
  | n + 1, .tup xs, h => by
    obtain ⟨ks, h1, h2⟩ := PV.hks_key n xs (by simpa [PV.hk] using h)
    exact ⟨.tup ks, by simp only [PV.key, h1], by simp only [NestedKey.depth]; omega⟩
  | _, .lst _, h => by simp [PV.hk] at h
  | _, .dct _, h => by simp [PV.hk] at h
  | _, .loc _, h => by simp [PV.hk] at h
  | _, .ty _, h => by simp [PV.hk] at h
theorem PV.hks_key : ∀ (n : Nat) (xs : List PV), PV.hks n xs = true → ∃ ks, PV.keys xs = some ks ∧ NestedKey.depthAll ks ≤ n
  | n, [], _ => ⟨[], rfl, Nat.zero_le _⟩
  | n, x :: xs, h => by
    simp only [PV.hks, Bool.and_eq_true] at h
    obtain ⟨k, h1, h2⟩ := PV.hk_key n x h.1
    obtain ⟨ks, h3, h4⟩ := PV.hks_key n xs h.2
    exact ⟨k :: ks, by simp only [PV.keys, h1, h3], by simp only [NestedKey.depthAll]; omega⟩
end
theorem PV.hk_of {x : PV} (h : x.hk 8 = true) : ∃ k, x.keyOf = some k ∧ x.key = some k ∧ k.depth ≤ 8 := by
  obtain ⟨k, h1, h2⟩ := PV.hk_key 8 x h
  exact ⟨k, by simp only [PV.keyOf, h1, if_pos h2], h1, h2⟩
theorem keyOf_key {x : PV} {k : NestedKey} (h : x.keyOf = some k) : x.key = some k ∧ k.depth ≤ 8 := by
  unfold PV.keyOf at h
  split at h
  · split at h
    · rename_i h1 h2
      cases h
      exact ⟨h1, h2⟩
    · cases h
  · cases h
theorem num_b (a b : Bool) : (a == b) = decide ((if a = true then (1 : Int) else 0) = if b = true then 1 else 0) := by cases a <;> cases b <;> rfl
mutual
theorem eqv_key : ∀ (x y : PV) (k l : NestedKey), x.key = some k → y.key = some l → PV.eqv x y = NestedKey.beq k l
  | .non, y, k, l, hx, hy => by cases hx; cases y <;> simp [PV.key] at hy <;> (try subst hy) <;> (try (split at hy <;> simp at hy; subst hy)) <;> simp [PV.eqv, NestedKey.beq]
  | .bl a, y, k, l, hx, hy => by
    cases hx
    cases y with
    | bl b => cases hy; simp only [PV.eqv, NestedKey.beq]; exact num_b a b
    | int j => cases hy; simp only [PV.eqv, NestedKey.beq, b2z]; rfl
    | tup ys => simp only [PV.key] at hy; split at hy <;> cases hy; rfl
    | _ => cases hy <;> rfl
  | .int i, y, k, l, hx, hy => by
    cases hx
    cases y with
    | bl b => cases hy; simp only [PV.eqv, NestedKey.beq, b2z]; rfl
    | int j => cases hy; simp only [PV.eqv, NestedKey.beq]; rfl
    | tup ys => simp only [PV.key] at hy; split at hy <;> cases hy; rfl
    | _ => cases hy <;> rfl
  | .str a, y, k, l, hx, hy => by
    cases hx
    cases y with
    | str b =>
      cases hy
      simp only [PV.eqv, NestedKey.beq]
      exact Bool.eq_iff_iff.mpr ⟨fun q => decide_eq_true (by rw [beq_iff_eq.mp q]), fun q => beq_iff_eq.mpr (tx_inj (of_decide_eq_true q))⟩
    | tup ys => simp only [PV.key] at hy; split at hy <;> cases hy; rfl
    | _ => cases hy <;> rfl
  | .tup xs, y, k, l, hx, hy => by
    simp only [PV.key] at hx
    split at hx
    · rename_i ks h1
      cases hx
      cases y with
      | tup ys =>
        simp only [PV.key] at hy
        split at hy
        · rename_i ls h2
          cases hy
          simp only [PV.eqv, NestedKey.beq]
          exact eqvs_keys xs ys ks ls h1 h2
        · cases hy
      | _ => cases hy <;> rfl
    · cases hx
  | .lst _, _, _, _, hx, _ => by cases hx
  | .dct _, _, _, _, hx, _ => by cases hx
  | .loc _, _, _, _, hx, _ => by cases hx
  | .ty _, _, _, _, hx, _ => by cases hx
theorem eqvs_keys : ∀ (xs ys : List PV) (ks ls : List NestedKey), PV.keys xs = some ks → PV.keys ys = some ls → PV.eqvs xs ys = NestedKey.beqAll ks ls
  | [], [], _, _, hx, hy => by cases hx; cases hy; rfl
  | [], y :: ys, _, _, hx, hy => by
    cases hx
    simp only [PV.keys] at hy
    split at hy
    · cases hy; rfl
    · cases hy
  | x :: xs, [], _, _, hx, hy => by
    cases hy
    simp only [PV.keys] at hx
    split at hx
    · cases hx; rfl
    · cases hx
  | x :: xs, y :: ys, _, _, hx, hy => by
    simp only [PV.keys] at hx hy
    split at hx
    · rename_i a as h1 h2
      split at hy
      · rename_i b bs h3 h4
        cases hx
        cases hy
        simp only [PV.eqvs, NestedKey.beqAll]
        rw [eqv_key x y a b h1 h3, eqvs_keys xs ys as bs h2 h4]
      · cases hy
    · cases hx
end
theorem eqv_dec {x y : PV} {k l : NestedKey} (hx : x.keyOf = some k) (hy : y.keyOf = some l) : PV.eqv x y = decide (k = l) := by
  rw [eqv_key x y k l (keyOf_key hx).1 (keyOf_key hy).1, NestedKey.decide_eq]
def PV.isTup : PV → Bool
  | .tup _ => true
  | _ => false
theorem flat_tup {x : PV} {k : NestedKey} (h : x.key = some k) : flatK k = !x.isTup := by
  cases x with
  | tup xs =>
    simp only [PV.key] at h
    split at h <;> cases h
    rfl
  | _ => cases h <;> rfl

/-! ### plain look-up, store -/
def dVal (kvs : List (PV × PV)) (x : PV) : Option PV := match kvs with
  | [] => none
  | p :: kvs => match PV.eqv p.1 x with
    | true => some p.2
    | false => dVal kvs x
def dPut (kvs : List (PV × PV)) (x v : PV) : List (PV × PV) := match kvs with
  | [] => [(x, v)]
  | p :: kvs => match PV.eqv p.1 x with
    | true => (p.1, v) :: kvs
    | false => p :: dPut kvs x v
/-- a key that may be sought -/
def okKey (kvs : List (PV × PV)) (x : PV) : Bool := x.hk 8 && (x.isTup || kvs.all fun p => !p.1.isTup)

section
variable {Γ : Ct} {ρ ρ' : Rho} {H H' : Hp}
inductive KVX (Γ : Ct) (ρ : Rho) (H : Hp) : List (PV × PV) → List Ent → Prop
  | nil : KVX Γ ρ H [] []
  | cons {k x : PV} {nk : NestedKey} {v u : V} {kv xv : Value} {kvs : List (PV × PV)} {xs : List Ent} : k.keyOf = some nk → Rep Γ ρ H k v → RelV v kv → Rep Γ ρ H x u → RelV u xv → KVX Γ ρ H kvs xs → KVX Γ ρ H ((k, x) :: kvs) ((nk, kv, xv) :: xs)
theorem KVX.length : ∀ {kvs : List (PV × PV)} {xs : List Ent}, KVX Γ ρ H kvs xs → kvs.length = xs.length
  | _, _, .nil => rfl
  | _, _, .cons _ _ _ _ _ t => by rw [List.length_cons, List.length_cons, KVX.length t]
theorem KVX.kp (e : Kp ρ H ρ' H') : ∀ {kvs : List (PV × PV)} {xs : List Ent}, KVX Γ ρ H kvs xs → KVX Γ ρ' H' kvs xs
  | _, _, .nil => .nil
  | _, _, .cons h a b c d t => .cons h (a.kp e) b (c.kp e) d (KVX.kp e t)
theorem KVX.flat : ∀ {kvs : List (PV × PV)} {xs : List Ent}, KVX Γ ρ H kvs xs → (xs.all fun x => flatK x.1) = kvs.all fun p => !p.1.isTup
  | _, _, .nil => rfl
  | _, _, .cons h _ _ _ _ t => by simp only [List.all_cons, KVX.flat t, flat_tup (keyOf_key h).1]
theorem KVX.look {kvs : List (PV × PV)} {xs : List Ent} (t : KVX Γ ρ H kvs xs) {x : PV} (h : okKey kvs x = true) : ∃ nk, x.keyOf = some nk ∧ x.key = some nk ∧ nk.depth ≤ 8 ∧ okLook nk xs = true := by
  unfold okKey at h
  rw [Bool.and_eq_true] at h
  obtain ⟨nk, h1, h2, h3⟩ := PV.hk_of h.1
  refine ⟨nk, h1, h2, h3, ?_⟩
  unfold okLook
  rw [flat_tup h2, t.flat, Bool.not_not]
  exact h.2
theorem findE_cons {x : Ent} {xs : List Ent} {k : NestedKey} : findE (x :: xs) k = if x.1 = k then some x.2.2 else findE xs k := by
  unfold findE
  by_cases h : x.1 = k
  · rw [if_pos h, List.find?_cons, decide_eq_true h]; rfl
  · rw [if_neg h, List.find?_cons, decide_eq_false h]
theorem dVal_cons {p : PV × PV} {kvs : List (PV × PV)} {x : PV} : dVal (p :: kvs) x = if PV.eqv p.1 x = true then some p.2 else dVal kvs x := by
  show (match PV.eqv p.1 x with | true => some p.2 | false => dVal kvs x) = _
  cases PV.eqv p.1 x <;> rfl
theorem dPut_cons {p : PV × PV} {kvs : List (PV × PV)} {x v : PV} : dPut (p :: kvs) x v = if PV.eqv p.1 x = true then (p.1, v) :: kvs else p :: dPut kvs x v := by
  show (match PV.eqv p.1 x with | true => (p.1, v) :: kvs | false => p :: dPut kvs x v) = _
  cases PV.eqv p.1 x <;> rfl
/-- both look-ups agree -/
theorem KVX.val {x : PV} {nk : NestedKey} (hx : x.keyOf = some nk) : ∀ {kvs : List (PV × PV)} {xs : List Ent}, KVX Γ ρ H kvs xs →
    (dVal kvs x = none ∧ findE xs nk = none) ∨ ∃ y u w, dVal kvs x = some y ∧ findE xs nk = some w ∧ Rep Γ ρ H y u ∧ RelV u w
  | _, _, .nil => .inl ⟨rfl, rfl⟩
  | _, _, .cons (nk := nj) h a b c d t => by
    rw [dVal_cons, findE_cons, eqv_dec h hx]
    by_cases e : nj = nk
    · rw [if_pos (decide_eq_true e), if_pos e]
      exact .inr ⟨_, _, _, rfl, rfl, c, d⟩
    · rw [if_neg (by rw [decide_eq_false e]; exact Bool.false_ne_true), if_neg e]
      exact KVX.val hx t
theorem putE_cons {x : Ent} {xs : List Ent} {k : NestedKey} {key v : Value} (hn : ((x :: xs).map (·.1)).Nodup) : putE (x :: xs) k key v = if x.1 = k then (x.1, x.2.1, v) :: xs else x :: putE xs k key v := by
  unfold putE
  rw [findE_cons]
  rw [List.map_cons, List.nodup_cons] at hn
  by_cases h : x.1 = k
  · rw [if_pos h, if_pos h, if_pos (show (some x.2.2).isSome = true from rfl), List.map_cons, if_pos h]
    congr 1
    refine (List.map_congr_left fun y hy => ?_).trans (List.map_id xs)
    rw [if_neg fun q => hn.1 (List.mem_map.mpr ⟨y, hy, q.trans h.symm⟩)]
    rfl
  · rw [if_neg h, if_neg h]
    by_cases hs : (findE xs k).isSome = true
    · rw [if_pos hs, if_pos hs, List.map_cons, if_neg h]
    · rw [if_neg hs, if_neg hs, List.cons_append]
theorem KVX.put {x y : PV} {v u : V} {kv xv : Value} {nk : NestedKey} (hx : x.keyOf = some nk) (a : Rep Γ ρ H x v) (b : RelV v kv) (c : Rep Γ ρ H y u) (d : RelV u xv) : ∀ {kvs : List (PV × PV)} {xs : List Ent}, KVX Γ ρ H kvs xs → (xs.map (·.1)).Nodup → KVX Γ ρ H (dPut kvs x y) (putE xs nk kv xv)
  | _, _, .nil, _ => .cons hx a b c d .nil
  | _, _, .cons (nk := nj) h a' b' c' d' t, hn => by
    rw [dPut_cons, putE_cons hn, eqv_dec h hx]
    by_cases e : nj = nk
    · rw [if_pos (decide_eq_true e), if_pos e]
      exact .cons h a' b' c d t
    · rw [if_neg (by rw [decide_eq_false e]; exact Bool.false_ne_true), if_neg e]
      rw [List.map_cons, List.nodup_cons] at hn
      exact .cons h a' b' c' d' (KVX.put hx a b c d t hn.2)
theorem dPut_length (kvs : List (PV × PV)) (x v : PV) : (dPut kvs x v).length ≤ kvs.length + 1 := by
  induction kvs with
  | nil => exact Nat.le_refl _
  | cons p kvs ih =>
    rw [dPut_cons]
    split
    · simp only [List.length_cons]; omega
    · simp only [List.length_cons]; omega
end

/-! ### a dict of the abstract heap, by its entries -/
section
variable {Γ : Ct} {X : Cx} {ρ : Rho} {H : Hp} {st : Sto} {pins : List (Addr × Obj)} {s : Shared} {σ : L2.St} {a : Addr}
mutual
theorem rep_nested (c : Cc Γ X) (I : Inv X pins σ H s) : ∀ (x : PV) (k : NestedKey) (v : V) (u : Value), x.key = some k → Rep Γ ρ H x v → RelV v u → NestedIs s.heap k u
  | .non, _, _, _, hk, r, ru => by cases hk; cases r; cases ru; exact .none
  | .bl b, _, _, _, hk, r, ru => by cases hk; cases r; cases ru; exact .bool rfl
  | .int i, _, _, _, hk, r, ru => by cases hk; cases r; obtain ⟨t, rfl⟩ := ru; exact .int i t
  | .str z, _, _, _, hk, r, ru => by cases hk; cases r; obtain ⟨t, rfl⟩ := ru; exact .text _ t
  | .tup xs, _, _, _, hk, r, ru => by
    simp only [PV.key] at hk
    split at hk
    · rename_i ks h1
      cases hk
      cases r with
      | tup t q =>
        cases ru
        have t' := t.sq
        rw [← c.K] at t'
        obtain ⟨its, rv, ⟨o, e, hc, n, hd⟩, _⟩ := I.tuple t'
        exact .tup e hc hd (by simpa using reps_nested c I xs ks _ its h1 q rv)
    · cases hk
  | .lst _, _, _, _, hk, _, _ => by cases hk
  | .dct _, _, _, _, hk, _, _ => by cases hk
  | .loc _, _, _, _, hk, _, _ => by cases hk
  | .ty _, _, _, _, hk, _, _ => by cases hk
theorem reps_nested (c : Cc Γ X) (I : Inv X pins σ H s) : ∀ (xs : List PV) (ks : List NestedKey) (vs : List V) (us : List Value), PV.keys xs = some ks → Reps Γ ρ H xs vs → Vals vs us → NestedAll s.heap ks us
  | [], _, _, _, hk, r, ru => by cases hk; cases r; cases ru; exact .nil
  | x :: xs, _, _, _, hk, r, ru => by
    simp only [PV.keys] at hk
    split at hk
    · rename_i k ks h1 h2
      cases hk
      cases r with
      | cons r1 r2 =>
        cases ru with
        | cons u1 u2 => exact .cons (rep_nested c I x k _ _ h1 r1 u1) (reps_nested c I xs ks _ _ h2 r2 u2)
    · cases hk
end
theorem DR.ok {P : Program} {w : World} {h : Heap} {u : HO} (d : DR H a u) (ok : HOk P w H h) : ObjOk P w H h a u := d.elim (fun z => z.ok ok) fun ⟨_, z⟩ => (z.ok ok).2
/-- its entries -/
theorem dn_open (c : Cc Γ X) (I : Inv X pins σ H s) {es : List (V × NestedKey × V)} {kvs : List (PV × PV)} (h : DR H a (DN Γ.w a es)) (r : RepD Γ ρ H kvs es) :
    ∃ xs, DRaw X.w s.heap a xs ∧ KVX Γ ρ H kvs xs ∧ kvs.length ≤ sizeLine ∧ (a == sysModules) = false := by
  have q : DIs Γ.w a es s.heap := (h.ok I.hok).1
  obtain ⟨q1, q2, q3, o, ents, ep, ho, hx, hd, pr⟩ := q
  have key : ∀ {kvs : List (PV × PV)} {es : List (V × NestedKey × V)} {l : List DictEntry}, RepD Γ ρ H kvs es → Paired (fun (p : V × NestedKey × V) (e : DictEntry) => RelV p.1 e.key ∧ e.hash = p.2.1.hash Γ.w ∧ RelV p.2.2 e.val) es l →
      ∃ xs : List Ent, l = xs.map (entD Γ.w) ∧ xs.map (·.1) = es.map (·.2.1) ∧ KVX Γ ρ H kvs xs ∧ (∀ x ∈ xs, NestedIs s.heap x.1 x.2.1 ∧ x.1.depth ≤ 8) ∧ kvs.length = es.length := by
    intro kvs es
    induction es generalizing kvs with
    | nil =>
      intro l r p
      cases r
      cases p
      exact ⟨[], rfl, rfl, .nil, (fun _ z => by cases z), rfl⟩
    | cons e es ih =>
      intro l r p
      cases r with
      | cons r1 r2 r3 r4 =>
        cases p with
        | @cons _ b _ l2 p1 p2 =>
          obtain ⟨xs, h1, h2, h3, h4, h5⟩ := ih r4 p2
          obtain ⟨z1, z2, z3⟩ := p1
          obtain ⟨bh, bk, bv⟩ := b
          refine ⟨(_, bk, bv) :: xs, ?_, ?_, .cons r2 r1 z1 r3 z3 h3, fun x hx => ?_, by rw [List.length_cons, List.length_cons, h5]⟩
          · rw [List.map_cons, h1]
            congr 1
            simp only at z2
            rw [z2]
            rfl
          · rw [List.map_cons, List.map_cons, h2]
          · rcases List.mem_cons.mp hx with e | hx
            · subst e
              obtain ⟨k1, k2⟩ := keyOf_key r2
              exact ⟨rep_nested c I _ _ _ _ k1 r1 z1, k2⟩
            · exact h4 x hx
  obtain ⟨xs, h1, h2, h3, h4, h5⟩ := key r pr
  refine ⟨xs, ⟨by rw [h2]; exact q3, h4, o, ents, ep, ho, hx, hd, by rw [c.w]; exact h1⟩, h3, by rw [h5]; exact q2, q1⟩
/-- and back -/
theorem dn_close {h : Heap} {kvs : List (PV × PV)} {xs : List Ent} (m : DRaw Γ.w h a xs) (r : KVX Γ ρ H kvs xs) (hz : kvs.length ≤ sizeLine) (hs : (a == sysModules) = false) : ∃ es, DIs Γ.w a es h ∧ RepD Γ ρ H kvs es := by
  obtain ⟨h1, h2, o, ents, ep, h3, h4, h5, h6⟩ := m
  have key : ∀ {kvs : List (PV × PV)} {xs : List Ent}, KVX Γ ρ H kvs xs → ∃ es : List (V × NestedKey × V), es.map (·.2.1) = xs.map (·.1) ∧ RepD Γ ρ H kvs es ∧
      Paired (fun (p : V × NestedKey × V) (e : DictEntry) => RelV p.1 e.key ∧ e.hash = p.2.1.hash Γ.w ∧ RelV p.2.2 e.val) es (xs.map (entD Γ.w)) := by
    intro kvs xs r
    induction r with
    | nil => exact ⟨[], rfl, .nil, .nil⟩
    | cons h a b c d t ih =>
      obtain ⟨es, e1, e2, e3⟩ := ih
      exact ⟨(_, _, _) :: es, by rw [List.map_cons, List.map_cons, e1], .cons a h c e2, .cons ⟨b, rfl, d⟩ e3⟩
  obtain ⟨es, e1, e2, e3⟩ := key r
  refine ⟨es, ⟨hs, ?_, by rw [e1]; exact h1, o, ents, ep, h3, h4, h5, by rw [h6]; exact e3⟩, e2⟩
  have l1 := congrArg List.length e1
  simp only [List.length_map] at l1
  rw [l1, ← r.length]
  exact hz
theorem DIs.ob {w : World} {es : List (V × NestedKey × V)} {h : Heap} (x : DIs w a es h) : ∃ o, h.get? a = some o := let ⟨_, _, _, o, _, _, e, _⟩ := x; ⟨o, e⟩
theorem DIs.keep {w : World} {es : List (V × NestedKey × V)} {h1 h2 : Heap} (x : DIs w a es h1) (k : ∀ o, h1.get? a = some o → h2.get? a = some o) : DIs w a es h2 :=
  let ⟨a1, a2, a3, o, ents, ep, e, r⟩ := x; ⟨a1, a2, a3, o, ents, ep, k o e, r⟩
theorem dn_ok {P : Program} {w : World} {es : List (V × NestedKey × V)} {h : Heap} (x : DIs w a es h) : ObjOk P w H h a (DN w a es) := ⟨x, x.ob, fun _ _ q k => q.keep k⟩
/-- a dict stands at the value: in the store or for good -/
def dctOf (st : Sto) (v : PV) : Option (List (PV × PV)) := match v with
  | .dct kvs => some kvs
  | .loc n => match st[n]? with
    | some (.dct _ kvs) => some kvs
    | _ => none
  | _ => none
theorem dctOf_ok (s : RSt Γ ρ st H) {x : PV} {v : V} {kvs : List (PV × PV)} (h : dctOf st x = some kvs) (r : Rep Γ ρ H x v) : ∃ a es, v = .ref a ∧ DR H a (DN Γ.w a es) ∧ RepD Γ ρ H kvs es := by
  cases x with
  | dct ys => cases h; cases r with | dct t n q => exact ⟨_, _, rfl, .inr ⟨_, t⟩, q⟩
  | loc n =>
    cases hn : st[n]? with
    | none => simp [dctOf, hn] at h
    | some o =>
      cases o with
      | dct fz ys =>
        simp only [dctOf, hn, Option.some.injEq] at h
        subst h
        cases r with
        | loc hl =>
          have q := s.at' n _ _ hn hl
          cases q with
          | dct e q => exact ⟨_, _, rfl, .inl (.inl e), q⟩
          | frz e q => exact ⟨_, _, rfl, .inl (.inr ⟨_, e⟩), q⟩
      | _ => simp [dctOf, hn] at h
  | _ => cases h
end
end Pl

set_option Elab.async false
set_option linter.all false
set_option maxRecDepth 100000
/-! Pl, part J: operations on dicts, writes to the store. -/
namespace Pl
open PySem PySem.Spec PyProof.Rows L2

section
variable {Γ : Ct} {X : Cx} {ρ : Rho} {H : Hp} {st : Sto} {a : Addr} {n : Nat}
/-! ### writes -/
theorem ext_write {o : HO} (hl : ρ.l[n]? = some a) : Ext ρ H ρ (upd H a o) :=
  ⟨⟨[], by simp⟩, rfl, fun b u e m => ⟨by rw [upd_ne (show b ≠ a from fun z => m (by rw [z]; exact List.mem_of_getElem? hl))]; exact e, m⟩⟩
theorem rst_write (s : RSt Γ ρ st H) {o : HO} {ob : SO} (hl : ρ.l[n]? = some a) (new : ORep Γ ρ (upd H a o) ob a) : RSt Γ ρ (st.set n ob) (upd H a o) := by
  have hn : n < st.length := by rw [← s.len]; exact (List.getElem?_eq_some_iff.mp hl).1
  refine ⟨by rw [List.length_set]; exact s.len, s.nd, fun i ob' b hi hb => ?_, fun b hb => ?_⟩
  · by_cases e : n = i
    · subst e
      rw [List.getElem?_set_self hn] at hi
      cases hi
      rw [hl] at hb
      cases hb
      exact new
    · rw [List.getElem?_set_ne e] at hi
      have hne : b ≠ a := fun z => by
        subst z
        exact e ((List.getElem?_inj (List.getElem?_eq_some_iff.mp hl).1 s.nd).mp (hl.trans hb.symm))
      exact (s.at' i ob' b hi hb).kp (ext_write (H := H) (o := o) hl).kp (upd_ne hne)
  · obtain ⟨⟨u, e⟩, m⟩ := s.hid b hb
    refine ⟨?_, m⟩
    by_cases z : b = a
    · subst z; exact ⟨_, upd_same⟩
    · exact ⟨u, by rw [upd_ne z]; exact e⟩
theorem mut_at (s : RSt Γ ρ st H) {ob : SO} (hn : st[n]? = some ob) (hl : ρ.l[n]? = some a) (nf : ∀ kvs, ob ≠ .dct true kvs) : Mut (H a) := by
  have q := s.at' n ob a hn hl
  cases q with
  | lst e _ => rw [e]; trivial
  | dct e _ => rw [e]; trivial
  | frz e _ => exact absurd rfl (nf _)
  | ins e _ => rw [e]; trivial
/-- o[i] = v -/
def setP (a b c : PV) (st : Sto) : Option Sto := match a with
  | .loc n => match st[n]? with
    | some (.lst xs) => match b with
      | .int j => match ixN xs.length j with
        | some p => some (st.set n (.lst (xs.set p c)))
        | none => none
      | _ => none
    | some (.dct false kvs) => if (okKey kvs b && decide ((dPut kvs b c).length ≤ LIM)) = true then some (st.set n (.dct false (dPut kvs b c))) else none
    | _ => none
  | _ => none
def rSetP (Γ : Ct) : TSet := fun o i v H Q => ∃ ρ st a b c, RSt Γ ρ st H ∧ Rep Γ ρ H a o ∧ Rep Γ ρ H b i ∧ Rep Γ ρ H c v ∧ ∃ st', setP a b c st = some st' ∧ ∀ ρ' H', Ext ρ H ρ' H' → RSt Γ ρ' st' H' → Q H'
theorem set_P (c : Cc Γ X) : PSet X (rSetP Γ) := by
  intro pins s σ H o i v ov iv u Q I ro ri rv h
  obtain ⟨ρ, st, a, b, cc, hs, ra, rb, rc, st', e, q⟩ := h
  have hu := c.un
  unfold setP at e
  split at e
  · rename_i n
    split at e
    · rename_i xs hn
      split at e
      · rename_i j
        split at e
        · rename_i p hp
          cases e
          obtain ⟨ad, vs, rfl, hH, rr, hl⟩ := hs.isl hn ra
          cases rb
          refine set_list pins s σ H _ _ v ov iv u Q I ro ri rv ⟨ad, vs, j, p, rfl, rfl, hH, by rw [← rr.length]; exact hp, q ρ _ (ext_write hl) (rst_write hs hl (.lst upd_same ((Reps.set rc p rr).kp (ext_write hl).kp)))⟩
        · cases e
      · cases e
    · rename_i kvs hn
      split at e
      · rename_i hk
        rw [Bool.and_eq_true, decide_eq_true_eq] at hk
        cases e
        cases ra with
        | loc hl =>
          rename_i ad
          cases ro
          have q0 := hs.at' n _ ad hn hl
          cases q0 with
          | @dct _ es _ e2 rd =>
            obtain ⟨xs, m, t, z, hd⟩ := dn_open c I (.inl (.inl e2)) rd
            obtain ⟨nk, k1, k2, k3, k4⟩ := t.look hk.1
            refine dd_set hd (by omega) ⟨rep_nested c I b nk i iv k2 rb ri, k3⟩ m k4 (by rw [← t.length]; exact z) fun h' nn m' sb => ?_
            obtain ⟨es', d1, d2⟩ := dn_close (Γ := Γ) (by rw [← c.w]; exact m') (t.put k1 rb ri rc rv m.nd) (lim_le hk.2) hd
            have I' : Inv X pins σ (upd H ad (DN Γ.w ad es')) { s with heap := h', toks := s.toks + nn } :=
              d_write I (by rw [e2]; trivial) sb d1.ob (dn_ok (P := X.prog) (H := upd H ad (DN Γ.w ad es')) d1)
            exact ⟨_, I', q ρ _ (ext_write hl) (rst_write hs hl (.dct upd_same (d2.kp (ext_write hl).kp)))⟩
      · cases e
    · cases e
  · cases e
/-- o[i] = v as a statement -/
def sPut (fv fo fi : EF) : SF := fun η st => (fv η st).toS η fun v s => (fo η s).toS η fun o s => (fi η s).toS η fun i s => match setP o i v s with
  | some s' => .nx η s'
  | none => .stuck
theorem ok_put (c : Cc Γ X) {o i value : Expr} {pos pos' : Pos} {fv fo fi : EF} (hv : PE X value (TEf Γ fv)) (ho : PE X o (TEf Γ fo)) (hi : PE X i (TEf Γ fi))
    (ha : ∀ v, assign (.Subscript o i pos') X.env v = (do
      let ov ← holding [v] (eval o X.env)
      let iv ← holding [v, ov] (eval i X.env)
      standAt pos'
      holding [v, ov, iv] (setItem ov iv v)
      release [v, ov, iv] []) := by intro _; rfl)
    (hs : swapsWithSole [.Subscript o i pos'] value pos.line X.env = pure false := by rfl) (hw : swappedStores [.Subscript o i pos'] value X.env = pure none := by rfl)
    (h1 : (assignEach [.Subscript o i pos'] X.env).map (·.2) = [assign (.Subscript o i pos') X.env] := by rfl) : PS X (.Assign [.Subscript o i pos'] value pos) (TSf Γ (sPut fv fo fi)) :=
  ps_of (ps_asg hv (pg_sub ho hi (set_P c) ha) hs hw h1) fun D σ H ⟨ρ, η, st, s, n, p⟩ =>
    te_mono (ts_e p s n) fun x H1 ⟨ρ1, v, st1, e1, s1, n1, r1, p1⟩ => te_mono (ts_e p1 s1 n1) fun y H2 ⟨ρ2, o', st2, e2, s2, n2, r2, p2⟩ => te_mono (ts_e p2 s2 n2) fun z H3 ⟨ρ3, i', st3, e3, s3, n3, r3, p3⟩ => by
      cases hp : setP o' i' v st3 with
      | none => simp only [hp] at p3; exact p3.elim
      | some st4 =>
        simp only [hp] at p3
        exact ⟨ρ3, st3, o', i', v, s3, r2.kp e3.kp, r3, (r1.kp e2.kp).kp e3.kp, st4, hp, fun ρ4 H4 e4 s4 => p3 ρ4 H4 _ e4 s4 (n3.kp e4.kp)⟩

/-! ### d[k], k in d, len -/
def oIxD (a b : PV) (st : Sto) : R PV := match dctOf st a with
  | some kvs => if okKey kvs b = true then (match dVal kvs b with
    | some v => .ok v st
    | none => .stuck) else .stuck
  | none => oIx a b st
theorem ix_All (c : Cc Γ X) : IxR X (RO Γ oIxD) := by
  rintro value slice pins s σ H x y v u Q I rx ry ⟨ρ, st, a, b, h, ha, hb, p⟩ hsl
  unfold oIxD at p
  cases hq : dctOf st a with
  | none =>
    rw [hq] at p
    exact ix_Seq c value slice pins s σ H x y v u Q I rx ry ⟨ρ, st, a, b, h, ha, hb, p⟩ hsl
  | some kvs =>
    rw [hq] at p
    dsimp only at p
    split at p
    · rename_i hk
      obtain ⟨ad, es, rfl, hr, rd⟩ := dctOf_ok h hq ha
      cases rx
      obtain ⟨xs, m, t, z, hd⟩ := dn_open c I hr rd
      obtain ⟨nk, k1, k2, k3, k4⟩ := t.look hk
      rcases t.val k1 with ⟨v1, _⟩ | ⟨y', u', w', v1, v2, v3, v4⟩
      · rw [v1] at p; exact p.elim
      · rw [v1] at p
        have hT := m.typeIs
        have hu := c.un
        unfold subscriptTail
        refine wpAny_bind ?_
        rw [getitemInPython_of_ne hT.not_modules]
        refine wpAny_bind (wpAny_specialOf hT PySem.F.slot_dict_getitem.lookup ?_)
        have fin : wpAny (model X.prog X.w) X.A (subscripted slice false (.ref ad) u) (fun r s₃ => wpAny (model X.prog X.w) X.A (letTemporaryGo value (.ref ad) r >>= fun _ => pure r) (EP X pins σ Q) X.xe s₃) X.xe s := by
          rw [hsl]
          refine wpAny_operating (dd_get hd (by omega) ⟨rep_nested c I b nk y u k2 hb ry, k3⟩ m k4 v2 fun nn => ?_)
          exact wpAny_bind (wpAny_letTemporaryGo (wpAny_pure ⟨u', H, I.tok _, v4, po_ok p h v3⟩))
        first
          | exact wpAny_pure (wpAny_bind fin)
          | exact wpAny_bind (wpAny_pure (wpAny_bind fin))
          | exact wpAny_bind fin
    · exact p.elim
theorem ok_ixD (c : Cc Γ X) {e1 e2 : Expr} {pos : Pos} {f g : EF} (ha : PE X e1 (TEf Γ f)) (hb : PE X e2 (TEf Γ g)) (hs : PlainIx e2 := by intro _ _; rfl) : PE X (.Subscript e1 e2 pos) (TEf Γ (eB oIxD f g)) := pe_of (pe_ix (ix_All c) ha hb hs) fun _ _ _ => te_op
def oInD (neg : Bool) (a b : PV) (st : Sto) : R PV := match dctOf st b with
  | some kvs => if okKey kvs a = true then .ok (.bl (if neg then !(dVal kvs a).isSome else (dVal kvs a).isSome)) st else .stuck
  | none => oIn neg a b st
theorem op_InD (c : Cc Γ X) (neg : Bool) : OpR X (compareOp (if neg then .NotIn else .In)) (RO Γ (oInD neg)) := by
  rintro pins s σ H x y v u Q I rx ry ⟨ρ, st, a, b, h, ha, hb, p⟩
  unfold oInD at p
  cases hq : dctOf st b with
  | none =>
    rw [hq] at p
    exact op_InG c neg pins s σ H x y v u Q I rx ry ⟨ρ, st, a, b, h, ha, hb, p⟩
  | some kvs =>
    rw [hq] at p
    dsimp only at p
    split at p
    · rename_i hk
      obtain ⟨ad, es, rfl, hr, rd⟩ := dctOf_ok h hq hb
      cases ry
      obtain ⟨xs, m, t, z, hd⟩ := dn_open c I hr rd
      obtain ⟨nk, k1, k2, k3, k4⟩ := t.look hk
      have hu := c.un
      have same : (findE xs nk).isSome = (dVal kvs a).isSome := by
        rcases t.val k1 with ⟨v1, v2⟩ | ⟨y', u', w', v1, v2, _, _⟩ <;> rw [v1, v2] <;> rfl
      have hkey : NestedIs s.heap nk v ∧ nk.depth ≤ 8 := ⟨rep_nested c I a nk x v k2 ha rx, k3⟩
      cases neg with
      | true => exact dd_notIn hd (by omega) hkey m k4 fun nn => ⟨.bl _, H, I.tok _, rfl, by rw [same]; exact po_ok p h (.bl _)⟩
      | false => exact dd_in hd (by omega) hkey m k4 fun nn => ⟨.bl _, H, I.tok _, rfl, by rw [same]; exact po_ok p h (.bl _)⟩
    · exact p.elim
theorem op_In' (c : Cc Γ X) : OpR X (compareOp .In) (RO Γ (oInD false)) := op_InD c false
theorem op_NotIn' (c : Cc Γ X) : OpR X (compareOp .NotIn) (RO Γ (oInD true)) := op_InD c true
/-- len of a dict by its entries -/
theorem dlen_body {w : World} {prog : Program} {A : Around} {E : Value → Shared → Prop} {s : Shared} {xs : List Ent} (hd : (a == sysModules) = false) (m : DRaw w s.heap a xs) (hz : xs.length < 2 ^ 63) {Q : Value → Shared → Prop}
    (h : ∀ t n, Q (.int xs.length t) { s with toks := s.toks + n }) : wpAny (model prog w) A (Builtin.«len» ⟨[.ref a], []⟩) (fun fin s' => ∃ r, fin = .done (.ret r) ∧ Q r s') E s := by
  have hT := m.typeIs
  obtain ⟨_, _, o, es, ep, ho, hc, hdd, he⟩ := m
  unfold Builtin.«len»
  refine wpAny_bind (m := oneArg "len" _) (wpAny_pure ?_)
  refine wpAny_bind (m := callSpecial? (.ref a) (Str.ofString "__len__")) (wpAny_callSpecial?_slot (name := Str.ofString "__len__") hT PySem.F.slot_dict_len (wpAny_call_entry PySem.F.slot_dict_len hT PySem.F.entry_dict_len ?_ (PySem.F.args_dict_len_1 _)))
  show wpAny _ A.in1 (dictSize a >>= _) _ _ s
  unfold dictSize
  refine wpAny_bind (wpAny_bind (wpAny_dictEntries ho hdd (wpAny_pure ?_)))
  show wpAny _ _ (Builtin.Dict.pendingCount a >>= _) _ _ s
  refine wpAny_bind (wpAny_pendingCount_other hd ?_)
  rw [ent_size he, show ((xs.length : Int) + ((0 : Nat) : Int)) = xs.length from Int.add_zero _]
  refine wpAny_bind (wpAny_mkInt (wpAny_pure ⟨_, rfl, ?_⟩))
  refine wpAny_bind (wpAny_holding (wpAny_pure ?_))
  refine wpAny_bind (wpAny_letGo ?_)
  show wpAny _ _ (if ((xs.length : Nat) : Int) < 0 then _ else _) _ _ _
  rw [if_neg (by omega)]
  show wpAny _ _ (if ((xs.length : Nat) : Int) ≥ 2 ^ 63 then _ else _) _ _ _
  rw [if_neg (by omega)]
  exact wpAny_bind (wpAny_mkInt (wpAny_pure ⟨_, rfl, h _ (1 + 1)⟩))
theorem dd_len {w : World} {prog : Program} {A : Around} {E : Value → Shared → Prop} {s : Shared} {xs : List Ent} (hd : (a == sysModules) = false) (m : DRaw w s.heap a xs) (hz : xs.length < 2 ^ 63) {Q : Value → Shared → Prop}
    (h : ∀ t n, Q (.int xs.length t) { s with toks := s.toks + n }) : wpAny (model prog w) A (call (.builtin "len") [.ref a]) Q E s :=
  Calls.call_function_entry kind_len plain_len entry_len (args_len1 _) (dlen_body hd m hz h)
/-- len of all -/
def gLenD (x : PV) (st : Sto) : R PV := match dctOf st x with
  | some kvs => .ok (.int kvs.length) st
  | none => gLen x st
theorem cl_lenD (c : Cc Γ X) : CallR X (.builtin "len") (RC Γ (o1 gLenD)) := by
  intro pins s σ H xs us Q I r hh
  obtain ⟨ρ, st, x, v, rfl, h, a1, p⟩ := rc1 hh
  unfold gLenD at p
  cases hq : dctOf st x with
  | none =>
    rw [hq] at p
    exact cl_len c pins s σ H _ us Q I r ⟨ρ, st, [x], h, .cons a1 .nil, p⟩
  | some kvs =>
    rw [hq] at p
    obtain ⟨ad, es, rfl, hr, rd⟩ := dctOf_ok h hq a1
    obtain ⟨u, rfl, ru⟩ := r.one
    cases ru
    obtain ⟨ys, m, t, z, hd⟩ := dn_open c I hr rd
    have hz := sizeLine_eq
    refine dd_len hd m (by rw [← t.length]; omega) fun tk nn => ⟨.int kvs.length, H, I.tok _, ⟨tk, by rw [t.length]⟩, po_ok p h (.int _)⟩
end
end Pl

set_option Elab.async false
set_option linter.all false
set_option maxRecDepth 100000
/-! Pl, part K: a dict made by a comprehension. -/
namespace Pl
open PySem PySem.Spec PyProof.Rows L2

section
variable {Γ : Ct} {X : Cx} {ρ : Rho} {H : Hp} {st : Sto} {a : Addr} {n : Nat}
theorem dn_new {P : Program} (w : World) (H : Hp) (h : Heap) (hb : sysModules < h.objs.size) : ObjOk P w H (h.push { cls := .type "dict", data := .dict #[] }) h.objs.size (DN w h.objs.size []) :=
  dn_ok ⟨beq_eq_false_iff_ne.mpr (Ne.symm (Nat.ne_of_lt hb)), Nat.zero_le _, List.nodup_nil, _, #[], 0, Heap.get?_push_size _ rfl, ⟨rfl, rfl, rfl⟩, rfl, .nil⟩
/-- the dict at D gets an entry -/
def PutD (Γ : Ct) (D : Addr) (y z : V) (H : Hp) (Q : Hp → Prop) : Prop := ∃ ρ kvs es k x, H D = some (DN Γ.w D es) ∧ RepD Γ ρ H kvs es ∧ Rep Γ ρ H k y ∧ Rep Γ ρ H x z ∧ okKey kvs k = true ∧ kvs.length < LIM ∧ ∀ es', RepD Γ ρ H (dPut kvs k x) es' → Q (upd H D (DN Γ.w D es'))
theorem put_D {pins : List (Addr × Obj)} {σ : L2.St} {s : Shared} {D : Addr} {y z : V} {u r : Value} {E : Value → Shared → Prop} {Q : Hp → Prop} (c : Cc Γ X) (I : Inv X pins σ H s) (ry : RelV y u) (rz : RelV z r) (q : PutD Γ D y z H Q) :
    wpAny (model X.prog X.w) X.A (dictSet D u r) (fun _ s' => ∃ H', Inv X pins σ H' s' ∧ Q H') E s := by
  obtain ⟨ρ, kvs, es, k, x, hD, rd, rk, rx, ok, hz, q⟩ := q
  have hu := c.un
  obtain ⟨xs, m, t, lz, hd⟩ := dn_open c I (.inl (.inl hD)) rd
  obtain ⟨nk, k1, k2, k3, k4⟩ := t.look ok
  refine dset (by omega) ⟨rep_nested c I k nk y u k2 rk ry, k3⟩ m k4 (by rw [← t.length]; exact lz) fun h' nn m' sb => ?_
  have hl := dPut_length kvs k x
  obtain ⟨es', d1, d2⟩ := dn_close (Γ := Γ) (by rw [← c.w]; exact m') (t.put k1 rk ry rx rz m.nd) (lim_le (by omega)) hd
  have nok : ObjOk X.prog X.w (upd H D (DN Γ.w D es')) h' D (DN Γ.w D es') := by
    rw [c.w]
    exact dn_ok d1
  exact ⟨_, d_write (t' := s.toks + nn) I (by rw [hD]; trivial) sb d1.ob nok, q es' d2⟩
/-- a dict that nobody changes from here on -/
theorem fz_D {pins : List (Addr × Obj)} {σ : L2.St} {s : Shared} {D : Addr} {es : List (V × NestedKey × V)} {Q : VK} (I : Inv X pins σ H s) (hD : H D = some (DN Γ.w D es)) (q : ∀ o, Q (.ref D) (upd H D (.frz o (DN Γ.w D es)))) : EP X pins σ Q (.ref D) s := by
  have ok := I.hok D _ hD
  obtain ⟨o, ho⟩ := ok.2.1
  have J := I.write (x := D) (e := D) (o := .frz o (DN Γ.w D es)) (t' := s.toks) (h' := s.heap) (by rw [hD]; trivial) (.inl rfl) (fun b u _ z => z) ⟨o, ho⟩ ⟨ho, ok⟩
  exact ⟨.ref D, _, J, rfl, q o⟩
theorem Cc.blk (c : Cc Γ X) {s : Shared} {scope : Scope} {ce : Env} {fp : List Addr} : Cc Γ (X.blk s H scope ce fp) := ⟨c.K, c.w, c.calm, c.un⟩
/-- {k: v for target in iter if ..}: the turns -/
def tDcP (Γ : Ct) (wi : TI) (g : TG) (tt : TT) (tk tv : TE) (vs : List Nat) : TE := fun σ H Q => wi σ H fun J H1 => ∀ D, H1 D = none → ∃ W : Nat → Nat → Hp → Prop, (∃ m, W 0 m (upd H1 D (DN Γ.w D []))) ∧ ∀ i m H, W i m H →
  (J.stop i H ∧ ∃ es, H D = some (DN Γ.w D es) ∧ ∀ o, Q (.ref D) (upd H D (.frz o (DN Γ.w D es)))) ∨ (J.go i H ∧ ∃ Nx : Hp → Prop, (∀ H', Nx H' → ∃ m', m' < m ∧ W (i + 1) m' H') ∧ ∀ x H', J.yld i H x H' → g x (wipe σ vs) H' fun σ2 H2 => wipe σ2 vs = wipe σ vs ∧ tt σ2 H2 fun b H3 =>
    if b = true then tk σ2 H3 fun y H4 => tv σ2 H4 fun z H5 => PutD Γ D y z H5 Nx else Nx H3)
theorem pe_dcP {kx vx tg iter : Expr} {ifs : List Expr} {scope : Scope} {own : List (Str × Nat)} {pos : Pos} {wi : TI} {g : TG} {tt : TT} {tk tv : TE} (c : Cc Γ X) (hN : X.N.Nodup) (hi : PI X tg iter wi) (ok : BlkOk X.N X.env.scope scope own)
    (hg : ∀ (s : Shared) (H : Hp) (C : Addr) (cl : List (Str × Addr)) (fp : List Addr), PG (X.blk s H scope (compEnvC scope cl C X.env) fp) tg g)
    (ht : ∀ (s : Shared) (H : Hp) (C : Addr) (cl : List (Str × Addr)) (fp : List Addr), PTs (X.blk s H scope (compEnvC scope cl C X.env) fp) ifs tt)
    (hk : ∀ (s : Shared) (H : Hp) (C : Addr) (cl : List (Str × Addr)) (fp : List Addr), PE (X.blk s H scope (compEnvC scope cl C X.env) fp) kx tk)
    (hv : ∀ (s : Shared) (H : Hp) (C : Addr) (cl : List (Str × Addr)) (fp : List Addr), PE (X.blk s H scope (compEnvC scope cl C X.env) fp) vx tv) (hs : ∀ x, foldedSetIterable iter X.env x = pure x := by intro _; rfl) :
    PE X (.DictComp kx vx [⟨tg, iter, ifs, 0⟩] scope pos) (tDcP Γ wi g tt tk tv (own.map (·.2))) := by
  refine ⟨fun pins s σ H Q I0 hq => ?_⟩
  rw [arm_eval_DictComp]
  have hfr : ∀ y ∈ scope.names, y.2 = .free → ∃ b, X.env.cells.lookup y.1 = some b := fun y hy e =>
    (ok.free y hy e).elim (fun z => I0.ok.has _ (.inl z)) fun z => I0.ok.has _ (.inr z)
  refine wpAny_comprehension_free rfl hs (closure_ok hfr) ok.kind (fun y hy e => by rw [ok.uniq y hy, e]) (thn (hi.run pins s σ H _ I0 hq) fun xv sA hx => thn hx fun itv sB hB => ?_)
  obtain ⟨it, fp, tn, J, HB, e, IB, T, stB, fB, q⟩ := hB
  subst e
  refine wpAny_newObj_type (newEnv_comp ?_)
  generalize hD : sB.heap.objs.size = D
  have dfree : HB D = none := IB.hok.fresh (Nat.le_of_eq hD)
  obtain ⟨W, ⟨m0, w0⟩, turn⟩ := q D dfree
  -- the new dict
  generalize hC : ({ sB with heap := sB.heap.push { cls := .type "dict", data := .dict #[] } } : Shared) = sC
  have IC : Inv X pins σ (upd HB D (DN Γ.w D [])) sC := by
    subst hC
    refine IB.laid (t' := sB.toks) (fun b o e => Heap.get?_push_of_some _ e) (Nat.le_of_eq hD) ?_
    have z := dn_new (P := X.prog) Γ.w (upd HB D (DN Γ.w D [])) sB.heap IB.big
    rw [hD] at z
    rw [c.w]
    exact z
  have hpC : sC.heap = sB.heap.push { cls := .type "dict", data := .dict #[] } := by rw [← hC]
  have below : ∀ b ∈ fp, b < sB.heap.objs.size := fun b hb => let ⟨_, eo, _⟩ := T.obj _ _ stB b hb; Heap.lt_size eo
  have fC : ∀ b ∈ fp, FpOk X pins (upd HB D (DN Γ.w D [])) b ∧ b < sC.heap.objs.size := fun b hb => by
    have lt := below b hb
    exact ⟨⟨by rw [upd_ne (by rw [← hD]; exact Nat.ne_of_lt lt)]; exact (fB b hb).1, (fB b hb).2⟩, by rw [hpC, Heap.size_push]; exact Nat.lt_succ_of_lt lt⟩
  have stC : tn 0 sC.heap := T.keep _ _ _ stB fun b _ o eo => by rw [hpC]; exact Heap.get?_push_of_some _ eo
  have IL := block_start IC ok hN fC
  generalize hH : upd HB D (DN Γ.w D []) = HC at IC IL w0 fC
  show codeAny _ _ (.compStart (.DictComp kx vx [⟨tg, iter, ifs, 0⟩] scope pos) 0 (.ref it) (.ref D) (compEnvC scope (cellsFrom (sC.heap.objs.size + 1) scope.names (cloFrom X.env.cells scope.names [])) sC.heap.objs.size X.env))
    (compPost (model X.prog X.w) X.A X.xe none (EP X pins σ Q) (.ref D) sC.heap.objs.size) { sC with heap := pushCells (sC.heap.push { cls := .type "dict", data := .dict #[] }) scope.names }
  have g1 := hg sC HC sC.heap.objs.size (cellsFrom (sC.heap.objs.size + 1) scope.names (cloFrom X.env.cells scope.names [])) fp
  have g2 := ht sC HC sC.heap.objs.size (cellsFrom (sC.heap.objs.size + 1) scope.names (cloFrom X.env.cells scope.names [])) fp
  have g3 := hk sC HC sC.heap.objs.size (cellsFrom (sC.heap.objs.size + 1) scope.names (cloFrom X.env.cells scope.names [])) fp
  have g4 := hv sC HC sC.heap.objs.size (cellsFrom (sC.heap.objs.size + 1) scope.names (cloFrom X.env.cells scope.names [])) fp
  have fpN : ∀ b ∈ fp, HC b = none := fun b hb => (fC b hb).1.1
  generalize hce : compEnvC scope (cellsFrom (sC.heap.objs.size + 1) scope.names (cloFrom X.env.cells scope.names [])) sC.heap.objs.size X.env = ce at IL g1 g2 g3 g4 ⊢
  have locC : ce.locals = sC.heap.objs.size := by rw [← hce]; rfl
  generalize hsL : ({ sC with heap := pushCells (sC.heap.push { cls := .type "dict", data := .dict #[] }) scope.names } : Shared) = sL at IL ⊢
  have stL : tn 0 sL.heap := T.keep _ _ _ stC fun b _ o eo => by rw [← hsL]; exact pushCells_keeps _ _ _ _ (Heap.get?_push_of_some _ eo)
  have foot : ∀ {σ' : L2.St} {H' : Hp} {s' : Shared}, Inv (X.blk sC HC scope ce fp) [] σ' H' s' → (∀ b ∈ fp, H' b = none) → ∀ b ∈ fp, FpOk (X.blk sC HC scope ce fp) [] H' b := fun {σ' H' s'} I' hn b hb =>
    ⟨hn b hb, (I'.ok.exf b hb).1, I'.ok.exfs b hb, .inl hb, fun x cc e => (I'.ok.exf b hb).2 x cc e, fun p hp => absurd (show p ∈ ([] : List (Addr × Obj)) ++ [] from hp) (by simp)⟩
  have cB : Cc Γ (X.blk sC HC scope ce fp) := c.blk
  have body : codeAny (model X.prog X.w) X.A (.compLoop (.DictComp kx vx [⟨tg, iter, ifs, 0⟩] scope pos) 0 (.ref it) (.ref D) ce) (compPost (model X.prog X.w) X.A X.xe none (EP X pins σ Q) (.ref D) sC.heap.objs.size) sL := by
    refine compLoop_anyD (fun n s' => ∃ i H', Inv (X.blk sC HC scope ce fp) [] (wipe σ (own.map (·.2))) H' s' ∧ tn i s'.heap ∧ (∀ b ∈ fp, H' b = none) ∧ W i n H') ?_ m0 ⟨0, HC, IL, stL, fpN, w0⟩
    rintro n s1 ⟨i, H1, I1, st1, n1, w1⟩
    rcases turn i n H1 w1 with ⟨stop, fin⟩ | ⟨go, Nx, hNx, step⟩
    · refine thnF (T.done (X.blk sC HC scope ce fp) rfl rfl rfl c.calm i [] s1 _ H1 (fun _ _ => False) I1 (foot I1 n1) st1 stop) fun r s2 ⟨hr, I2⟩ => ?_
      subst hr
      have Iout : Inv X pins σ H1 s2 := IC.call' (ch := fp) I2.os I2.base I2.hok I2.bare fun b hb => let z := (fC b hb).1; ⟨z.2.2.2.1, z.2.1, z.2.2.2.2.1, z.2.2.2.2.2⟩
      have gone : H1 sC.heap.objs.size = none := by rw [← locC]; exact (show H1 ce.locals = none from I2.free)
      obtain ⟨m, hn, _⟩ := I2.loc
      have hn' : s2.heap.Ns ce.locals m := hn
      rw [locC] at hn'
      obtain ⟨f0, f1, f2, f3, f4, f5⟩ := IC.fpOk (Nat.le_refl _) gone
      obtain ⟨es, hes, fin⟩ := fin
      exact ⟨m, hn', fun h'' sb => fz_D (Iout.turned (t' := s2.toks) (fun b o hb eo => (sb.2 b hb).trans eo) f0 f1 f3 f4 f5) hes fin⟩
    · refine thnF (T.item (X.blk sC HC scope ce fp) rfl rfl rfl c.calm i [] s1 _ H1 (fun _ _ => False) I1 (foot I1 n1) st1 go) fun r s2 ⟨u, hr, h2⟩ => ?_
      subst hr
      refine thnF h2 fun _ s3 ⟨x, H3, I3, r3, y3, st3, n3⟩ => ?_
      refine thnF (g1.run _ s3 _ H3 x u _ (I3.pinned (foot I3 n3) (T.obj _ _ st3)) r3 (step x H3 y3)) fun _ s4 ⟨σ4, H4, I4, hw, q4⟩ => ?_
      refine thnF (g2.run _ s4 σ4 H4 _ I4 q4) fun b s5 ⟨H5, I5, q5⟩ => ?_
      have next : ∀ {s' : Shared} {H' : Hp}, Inv (X.blk sC HC scope ce fp) ([] ++ pinsAt fp s3.heap) σ4 H' s' → Nx H' → ∃ m, m < n ∧ ∃ i H', Inv (X.blk sC HC scope ce fp) [] (wipe σ (own.map (·.2))) H' s' ∧ tn i s'.heap ∧ (∀ b ∈ fp, H' b = none) ∧ W i m H' := fun {s' H'} I' nx => by
        obtain ⟨m', lt, w'⟩ := hNx H' nx
        have held : ∀ b ∈ fp, ∀ o, s3.heap.get? b = some o → s'.heap.get? b = some o ∧ H' b = none := fun b hb o eo =>
          let z := I'.pin (b, o) (List.mem_append_right _ (List.mem_append_right _ (mem_pinsAt hb eo)))
          ⟨z.1, z.2.1⟩
        refine ⟨m', lt, i + 1, H', (I'.unpinned (pins := [])).weak (by rw [← hw, wipe_length]) (fun j v e => ?_), T.keep _ _ _ st3 fun b hb o eo => (held b hb o eo).1, fun b hb => ?_, w'⟩
        · rw [← hw] at e
          exact (wipe_some e).1
        · obtain ⟨o, eo, _⟩ := T.obj _ _ st3 b hb
          exact (held b hb o eo).2
      cases b with
      | false =>
        rw [if_neg Bool.false_ne_true] at q5 ⊢
        exact next I5 q5
      | true =>
        rw [if_pos rfl] at q5 ⊢
        refine thnF (g3.run _ s5 σ4 H5 _ I5 q5) fun uk s6 ⟨yk, H6, I6, r6, q6⟩ => ?_
        refine thnF (g4.run _ s6 σ4 H6 _ I6 q6) fun uv s7 ⟨yv, H7, I7, r7, q7⟩ => ?_
        exact thnF (put_D (X := X.blk sC HC scope ce fp) cB I7 r6 r7 q7) fun _ s8 ⟨H8, I8, nx⟩ => next I8 nx
  exact codeAny_compStart_dict body (T.self X.A 0 _ _ _ stL body)
end
end Pl

set_option Elab.async false
set_option linter.all false
set_option maxRecDepth 100000
/-! Pl, part L: dict comprehensions as plain functions. -/
namespace Pl
open PySem PySem.Spec PyProof.Rows L2

def dcL (t : Tg) (c : BF) (fk fv : EF) (η : En) : List PV → List (PV × PV) → Sto → R (List (PV × PV))
  | [], acc, st => .ok acc st
  | x :: xs, acc, st => match t.bind x η with
    | none => .stuck
    | some η1 => (c η1 st).bind fun b s => match b with
      | true => (fk η1 s).bind fun k s => (fv η1 s).bind fun v s => match okKey acc k && decide (acc.length < LIM) with
        | true => dcL t c fk fv η xs (dPut acc k v) s
        | false => .stuck
      | false => dcL t c fk fv η xs acc s
def mkDct (kvs : List (PV × PV)) (st : Sto) : R PV := .ok (.dct kvs) st
def eDC (it : IF) (own : List Nat) (t : Tg) (c : BF) (fk fv : EF) : EF := fun η st => (it η st).bind fun items s => (dcL t c fk fv (wipeE η own) items [] s).bind mkDct
section
variable {X : Cx} {Γ : Ct} {pos : Pos}
theorem te_dc {it : IF} {own : List Nat} {t : Tg} {cc : BF} {fk fv : EF} (ht : ∀ i ∈ t.slots, i ∈ own) {σ : L2.St} {H : Hp} {Q : VK} (h : TEf Γ (eDC it own t cc fk fv) σ H Q) : tDcP Γ (TIf Γ it) (TGf Γ t) (TTf Γ cc) (TEf Γ fk) (TEf Γ fv) own σ H Q := by
  obtain ⟨ρ0, η, st0, s0, n0, p0⟩ := h
  refine ti_mono (ti_bind p0 s0 n0) fun J H1 ⟨ρ1, items, st1, e1, s1, n1, w1, p1⟩ D hD => ?_
  refine ⟨fun i m H => ∃ ρ st rest acc es, items.length = i + rest.length ∧ items.drop i = rest ∧ m = rest.length ∧ ρ.h = D :: ρ1.h ∧ RSt Γ ρ st H ∧ REn Γ ρ H (wipeE η own) (wipe σ own) ∧ Kp ρ1 H1 ρ H ∧ Ext ρ1 H1 (ρ.with ρ1.h) H ∧ H D = some (DN Γ.w D es) ∧ RepD Γ ρ H acc es ∧
    Po Γ ρ1 H1 (Rep Γ) ((dcL t cc fk fv (wipeE η own) rest acc st).bind mkDct) Q,
    ⟨_, ρ1.hide D, st1, items, [], [], by simp, rfl, rfl, rfl, rst_hide s1 hD, (n1.kp (kp_hide hD)).wipe own, kp_hide hD, ?_, upd_same, .nil, p1⟩, ?_⟩
  · exact ⟨⟨[], by simp [Rho.with, Rho.hide]⟩, rfl, fun a o ha n => ⟨by rw [upd_ne (ne_of_none ha hD)]; exact ha, n⟩⟩
  rintro i m H2 ⟨ρ, st, rest, acc, es, hl, hd, rfl, hh, s, n, k, ex, hDv, hacc, p⟩
  have memD : D ∈ ρ.h := by rw [hh]; simp
  have sub : ∀ a ∈ ρ1.h, a ∈ ρ.h := fun a ha => by rw [hh]; exact List.mem_cons_of_mem _ ha
  have nD1 : H1 D = none := hD
  cases rest with
  | nil =>
    have := (w1 ρ st H2 k s).2
    have e : items.length = i := by simpa using hl
    rw [e] at this
    refine .inl ⟨this, es, hDv, fun o => ?_⟩
    have kf := kp_grow (H := H2) memD (o := .frz o (DN Γ.w D es))
    refine p (ρ.with ρ1.h) _ _ ⟨ex.pre, ex.hd, fun b u hb nb => ⟨by rw [upd_ne (ne_of_none hb nD1)]; exact (ex.keep b u hb nb).1, (ex.keep b u hb nb).2⟩⟩ (rst_bare (rst_grow s memD) sub) (.dct (.inl upd_same) (fun z => ?_) ((hacc.kp kf).kp (kp_bare sub)))
    rcases z with z | z
    · exact (s.hid D memD).2 z
    · obtain ⟨⟨u, hu⟩, _⟩ := s1.hid D z
      rw [nD1] at hu; cases hu
  | cons x xs =>
    have hx : items[i]? = some x := by
      have : (items.drop i)[0]? = some x := by rw [hd]; rfl
      rwa [List.getElem?_drop, Nat.add_zero] at this
    obtain ⟨go, yl⟩ := (w1 ρ st H2 k s).1 i x hx
    refine .inr ⟨go, fun H' => ∃ ρ' st' acc' es', ρ'.h = D :: ρ1.h ∧ RSt Γ ρ' st' H' ∧ REn Γ ρ' H' (wipeE η own) (wipe σ own) ∧ Kp ρ1 H1 ρ' H' ∧ Ext ρ1 H1 (ρ'.with ρ1.h) H' ∧ H' D = some (DN Γ.w D es') ∧ RepD Γ ρ' H' acc' es' ∧
      Po Γ ρ1 H1 (Rep Γ) ((dcL t cc fk fv (wipeE η own) xs acc' st').bind mkDct) Q, fun H' ⟨ρ', st', acc', es', a1, a2, a3, a4, a5, a6, a7, a8⟩ => ⟨xs.length, Nat.lt_succ_self _, ρ', st', xs, acc', es', ?_, ?_, rfl, a1, a2, a3, a4, a5, a6, a7, a8⟩, fun v H' y => ?_⟩
    · rw [hl, List.length_cons]; omega
    · have : items.drop (i + 1) = (items.drop i).drop 1 := by rw [List.drop_drop]
      rw [this, hd]; rfl
    · obtain ⟨e3, s3, r3⟩ := yl v H' y
      have bare : ∀ {ρ' : Rho} {Ha Hb : Hp} {ρa : Rho}, ρa.h = D :: ρ1.h → Ext ρ1 H1 (ρa.with ρ1.h) Ha → Ext ρa Ha ρ' Hb → Ext ρ1 H1 (ρ'.with ρ1.h) Hb := fun {ρ' Ha Hb ρa} hha xa xb =>
        xa.trans ⟨xb.pre, rfl, fun a o ha na => xb.keep a o ha na⟩
      simp only [dcL] at p
      split at p
      · obtain ⟨v, s', hm⟩ := po_is p
        cases hm
      · rename_i η1 hb
        refine ⟨ρ, _, x, n.kp e3.kp, r3, η1, hb, fun σ2 n2 sb => ⟨by rw [sb own ht, wipe_wipe], ρ, η1, st, s3, n2, ?_⟩⟩
        rw [rbind_assoc] at p
        have kc := p
        revert kc
        clear p
        cases cc η1 st with
        | stuck => exact fun p => p
        | exc _ _ _ => exact fun p => p
        | ok b st4 =>
          intro kc ρ4 H4 b' e4 s4 hb'
          cases hb'
          have h4 : ρ4.h = D :: ρ1.h := by rw [e4.hd, hh]
          have hD4 : H4 D = some (DN Γ.w D es) := (e4.keep D _ (e3.keep D _ hDv (s.hid D memD).2).1 (s.hid D memD).2).1
          have ex4 := bare hh (bare hh ex e3) e4
          have k4 := (k.trans e3.kp).trans e4.kp
          cases b with
          | false => exact iteF ⟨ρ4, st4, acc, es, h4, s4, n.kp (e3.kp.trans e4.kp), k4, ex4, hD4, hacc.kp (e3.kp.trans e4.kp), kc⟩
          | true =>
            refine iteT ⟨ρ4, η1, st4, s4, n2.kp e4.kp, ?_⟩
            have kc2 : Po Γ ρ1 H1 (Rep Γ) (((fk η1 st4).bind fun k s => (fv η1 s).bind fun v s => match okKey acc k && decide (acc.length < LIM) with
              | true => dcL t cc fk fv (wipeE η own) xs (dPut acc k v) s
              | false => .stuck).bind mkDct) Q := kc
            rw [rbind_assoc] at kc2
            revert kc2
            cases fk η1 st4 with
            | stuck => exact fun p => p
            | exc _ _ _ => exact fun p => p
            | ok w st5 =>
              intro kc2 ρ5 H5 u e5 s5 r5
              have h5 : ρ5.h = D :: ρ1.h := by rw [e5.hd, h4]
              have hD5 : H5 D = some (DN Γ.w D es) := (e5.keep D _ hD4 (s4.hid D (by rw [h4]; simp)).2).1
              have ex5 := bare h4 ex4 e5
              refine ⟨ρ5, η1, st5, s5, (n2.kp e4.kp).kp e5.kp, ?_⟩
              have kc3 : Po Γ ρ1 H1 (Rep Γ) (((fv η1 st5).bind fun v s => match okKey acc w && decide (acc.length < LIM) with
                | true => dcL t cc fk fv (wipeE η own) xs (dPut acc w v) s
                | false => .stuck).bind mkDct) Q := kc2
              rw [rbind_assoc] at kc3
              revert kc3
              cases fv η1 st5 with
              | stuck => exact fun p => p
              | exc _ _ _ => exact fun p => p
              | ok w2 st6 =>
                intro kc3 ρ6 H6 u2 e6 s6 r6
                have kc4 : Po Γ ρ1 H1 (Rep Γ) ((match okKey acc w && decide (acc.length < LIM) with
                  | true => dcL t cc fk fv (wipeE η own) xs (dPut acc w w2) st6
                  | false => R.stuck).bind mkDct) Q := kc3
                have h6 : ρ6.h = D :: ρ1.h := by rw [e6.hd, h5]
                have mem6 : D ∈ ρ6.h := by rw [h6]; simp
                have hD6 : H6 D = some (DN Γ.w D es) := (e6.keep D _ hD5 (s5.hid D (by rw [h5]; simp)).2).1
                have ex6 := bare h5 ex5 e6
                split at kc4
                · rename_i hok
                  rw [Bool.and_eq_true, decide_eq_true_eq] at hok
                  have kk := ((e3.kp.trans e4.kp).trans e5.kp).trans e6.kp
                  have kcs : ∀ o, Kp ρ6 H6 ρ6 (upd H6 D o) := fun o => kp_grow mem6
                  refine ⟨ρ6, acc, es, w, w2, hD6, hacc.kp kk, r5.kp e6.kp, r6, hok.1, hok.2, fun es' rd => ⟨ρ6, st6, dPut acc w w2, es', h6, rst_grow s6 mem6, (n.kp kk).kp (kcs _), ((k4.trans e5.kp).trans e6.kp).trans (kcs _), ?_, upd_same, rd.kp (kcs _), kc4⟩⟩
                  refine ⟨ex6.pre, ex6.hd, fun a o ha na => ?_⟩
                  obtain ⟨q1, q2⟩ := ex6.keep a o ha na
                  exact ⟨by rw [upd_ne (ne_of_none ha nD1)]; exact q1, q2⟩
                · exact kc4.elim
theorem ok_dc {kx vx tg iter : Expr} {ifs : List Expr} {scope : Scope} {own : List Nat} {it : IF} {t : Tg} {cc : BF} {fk fv : EF} (h : PE X (.DictComp kx vx [⟨tg, iter, ifs, 0⟩] scope pos) (tDcP Γ (TIf Γ it) (TGf Γ t) (TTf Γ cc) (TEf Γ fk) (TEf Γ fv) own)) (ht : ∀ i ∈ t.slots, i ∈ own) :
    PE X (.DictComp kx vx [⟨tg, iter, ifs, 0⟩] scope pos) (TEf Γ (eDC it own t cc fk fv)) := pe_of h fun _ _ _ => te_dc ht
end
end Pl

set_option Elab.async false
set_option linter.all false
set_option maxRecDepth 100000
/-! Pl, part M: the order of data; sorting. -/
namespace Pl
open PySem PySem.Spec PyProof.Rows L2

/-! ### the order -/
def natsLt : List Nat → List Nat → Bool
  | [], [] => false
  | [], _ :: _ => true
  | _ :: _, [] => false
  | a :: as, b :: bs => Nat.blt a b || (Nat.beq a b && natsLt as bs)
theorem natsLt_iff : ∀ a b : List Nat, natsLt a b = decide (a < b)
  | [], [] => by simp [natsLt]
  | [], _ :: _ => by simp [natsLt]
  | _ :: _, [] => by simp [natsLt]
  | a :: as, b :: bs => by
    simp only [natsLt, natsLt_iff as bs]
    rw [Bool.eq_iff_iff]
    simp only [Bool.or_eq_true, Bool.and_eq_true, decide_eq_true_eq, List.cons_lt_cons_iff, Nat.blt_eq, Nat.beq_eq]
mutual
/-- x < y for values that are alike -/
def PV.lt : PV → PV → Bool
  | .bl a, y => match y with
    | .bl b => !a && b
    | _ => false
  | .int a, y => match y with
    | .int b => decide (a < b)
    | _ => false
  | .str a, y => match y with
    | .str b => natsLt a b
    | _ => false
  | .tup xs, y => match y with
    | .tup ys => PV.lts xs ys
    | _ => false
  | .lst xs, y => match y with
    | .lst ys => PV.lts xs ys
    | _ => false
  | .non, _ => false
  | .dct _, _ => false
  | .loc _, _ => false
  | .ty _, _ => false
def PV.lts : List PV → List PV → Bool
  | [], ys => match ys with
    | [] => false
    | _ :: _ => true
  | x :: xs, ys => match ys with
    | [] => false
    | y :: ys => match PV.eqv x y with
      | true => PV.lts xs ys
      | false => PV.lt x y
end
mutual
def PV.alk : PV → PV → Bool
  | .bl _, y => match y with
    | .bl _ => true
    | _ => false
  | .int _, y => match y with
    | .int _ => true
    | _ => false
  | .str _, y => match y with
    | .str _ => true
    | _ => false
  | .tup xs, y => match y with
    | .tup ys => PV.alks xs ys
    | _ => false
  | .lst xs, y => match y with
    | .lst ys => PV.alks xs ys
    | _ => false
  | .non, y => match y with
    | .non => true
    | _ => false
  | .dct _, _ => false
  | .loc _, _ => false
  | .ty _, _ => false
def PV.alks : List PV → List PV → Bool
  | [], _ => true
  | x :: xs, ys => match ys with
    | [] => true
    | y :: ys => PV.alk x y && PV.alks xs ys
end
mutual
theorem alk_data : ∀ x y : PV, PV.alk x y = true → PySem.W.alike x.data y.data = true
  | .bl _, y, h => by cases y <;> simp_all [PV.alk, PV.data, PySem.W.alike]
  | .int _, y, h => by cases y <;> simp_all [PV.alk, PV.data, PySem.W.alike]
  | .str _, y, h => by cases y <;> simp_all [PV.alk, PV.data, PySem.W.alike]
  | .non, y, h => by cases y <;> simp_all [PV.alk, PV.data, PySem.W.alike]
  | .tup xs, y, h => by
    cases y with
    | tup ys => simp only [PV.data, PySem.W.alike]; exact alks_data xs ys (by simpa [PV.alk] using h)
    | _ => simp [PV.alk] at h
  | .lst xs, y, h => by
    cases y with
    | lst ys => simp only [PV.data, PySem.W.alike]; exact alks_data xs ys (by simpa [PV.alk] using h)
    | _ => simp [PV.alk] at h
  | .dct _, _, h => by simp [PV.alk] at h
  | .loc _, _, h => by simp [PV.alk] at h
  | .ty _, _, h => by simp [PV.alk] at h
theorem alks_data : ∀ xs ys : List PV, PV.alks xs ys = true → PySem.W.alikeAll (PV.datas xs) (PV.datas ys) = true
  | [], _, _ => by simp [PV.datas, PySem.W.alikeAll]
  | x :: xs, [], _ => by simp [PV.datas, PySem.W.alikeAll]
  | x :: xs, y :: ys, h => by
    simp only [PV.alks, Bool.and_eq_true] at h
    simp only [PV.datas, PySem.W.alikeAll, alk_data x y h.1, alks_data xs ys h.2, Bool.and_self]
end
mutual
theorem lt_data : ∀ (n m : Nat) (x y : PV), x.pl n = true → y.pl m = true → PV.alk x y = true → PySem.W.dataLt x.data y.data = PV.lt x y
  | _, _, .bl a, y, _, _, h => by
    cases y with
    | bl b => simp only [PV.data, PySem.W.dataLt_bool, PV.lt]; cases a <;> cases b <;> rfl
    | _ => simp [PV.alk] at h
  | _, _, .int a, y, _, _, h => by
    cases y with
    | int b => simp only [PV.data, PySem.W.dataLt_int, PV.lt]
    | _ => simp [PV.alk] at h
  | _, _, .str a, y, _, _, h => by
    cases y with
    | str b => simp only [PV.data, PySem.W.dataLt_str, PV.lt, tx_cps, natsLt_iff]
    | _ => simp [PV.alk] at h
  | _, _, .non, y, _, _, h => by
    cases y with
    | non => rfl
    | _ => simp [PV.alk] at h
  | 0, _, .tup xs, _, h, _, _ => by simp [PV.pl] at h
  | n + 1, m, .tup xs, y, h1, h2, h => by
    cases y with
    | tup ys =>
      cases m with
      | zero => simp [PV.pl] at h2
      | succ m =>
        simp only [PV.data, PySem.W.dataLt_tuple, PV.lt]
        exact lts_data n m xs ys (by simpa [PV.pl] using h1) (by simpa [PV.pl] using h2) (by simpa [PV.alk] using h)
    | _ => simp [PV.alk] at h
  | 0, _, .lst xs, _, h, _, _ => by simp [PV.pl] at h
  | n + 1, m, .lst xs, y, h1, h2, h => by
    cases y with
    | lst ys =>
      cases m with
      | zero => simp [PV.pl] at h2
      | succ m =>
        simp only [PV.data, PySem.W.dataLt_list, PV.lt]
        exact lts_data n m xs ys (by simpa [PV.pl] using h1) (by simpa [PV.pl] using h2) (by simpa [PV.alk] using h)
    | _ => simp [PV.alk] at h
  | _, _, .dct _, _, h, _, _ => by simp [PV.pl] at h
  | _, _, .loc _, _, h, _, _ => by simp [PV.pl] at h
  | _, _, .ty _, _, h, _, _ => by simp [PV.pl] at h
theorem lts_data : ∀ (n m : Nat) (xs ys : List PV), PV.pls n xs = true → PV.pls m ys = true → PV.alks xs ys = true → PyProof.Rows.lexLt itemOrd (PySem.W.keyToksAll (PV.datas xs)) (PySem.W.keyToksAll (PV.datas ys)) = PV.lts xs ys
  | _, _, [], [], _, _, _ => by
    show PyProof.Rows.lexLt itemOrd (PySem.W.keyToksAll []) (PySem.W.keyToksAll []) = false
    exact lex_irrefl _
  | _, _, [], y :: ys, _, _, _ => by
    have := PySem.W.dataLt_tuple [] (PV.datas (y :: ys))
    simp only [PV.datas, PySem.W.keyToksAll, PV.lts]
    rfl
  | _, _, x :: xs, [], _, _, _ => by
    simp only [PV.datas, PySem.W.keyToksAll, PV.lts]
    rfl
  | n, m, x :: xs, y :: ys, h1, h2, h => by
    simp only [PV.pls, Bool.and_eq_true] at h1 h2
    simp only [PV.alks, Bool.and_eq_true] at h
    simp only [PV.datas, PV.lts]
    rw [PySem.W.dataLt_cons (alk_data x y h.1), PV.eqv_data n m x y h1.1 h2.1, lts_data n m xs ys h1.2 h2.2 h.2, lt_data n m x y h1.1 h2.1 h.1]
    cases PV.eqv x y <;> rfl
end

/-! ### sorting, plainly -/
def insP (lt : PV → PV → Bool) (x : PV) : List PV → List PV
  | [] => [x]
  | y :: ys => match lt y x with
    | true => y :: insP lt x ys
    | false => x :: y :: ys
def sortP (lt : PV → PV → Bool) : List PV → List PV
  | [] => []
  | x :: xs => insP lt x (sortP lt xs)
theorem insP_app {lt : PV → PV → Bool} {x : PV} : ∀ {l r : List PV}, (∀ y ∈ l, lt y x = true) → insP lt x (l ++ r) = l ++ insP lt x r
  | [], _, _ => rfl
  | y :: l, r, h => by
    have h1 := h y List.mem_cons_self
    show insP lt x (y :: (l ++ r)) = y :: (l ++ insP lt x r)
    simp only [insP, h1, insP_app fun z hz => h z (List.mem_cons_of_mem _ hz)]
theorem insP_head {lt : PV → PV → Bool} {x : PV} : ∀ {r : List PV}, (∀ y ∈ r, lt y x = false) → insP lt x r = x :: r
  | [], _ => rfl
  | y :: r, h => by simp only [insP, h y List.mem_cons_self]
theorem sortP_merge {lt : PV → PV → Bool} (trans : ∀ a b c, (!lt b a) = true → (!lt c b) = true → (!lt c a) = true) (total : ∀ a b, ((!lt b a) || (!lt a b)) = true) : ∀ l : List PV, sortP lt l = l.mergeSort fun a b => !lt b a
  | [] => by simp [sortP]
  | x :: l => by
    obtain ⟨l1, l2, h1, h2, h3⟩ := List.mergeSort_cons (le := fun a b => !lt b a) trans total x l
    have hs := List.pairwise_mergeSort (le := fun a b => !lt b a) trans total (x :: l)
    rw [h1] at hs
    have hs2 := (List.pairwise_append.mp hs).2.1
    rw [List.pairwise_cons] at hs2
    rw [h1]
    show insP lt x (sortP lt l) = _
    rw [sortP_merge trans total l, h2, insP_app fun y hy => by simpa using h3 y hy, insP_head fun y hy => by simpa using hs2.1 y hy]
theorem sortP_congr {f g : PV → PV → Bool} : ∀ {l : List PV}, (∀ x ∈ l, ∀ y ∈ l, f x y = g x y) → sortP f l = sortP g l ∧ ∀ z ∈ sortP f l, z ∈ l := by
  intro l
  induction l with
  | nil => intro _; exact ⟨rfl, fun _ z => z⟩
  | cons x l ih =>
    intro h
    obtain ⟨h1, h2⟩ := ih fun a ha b hb => h a (List.mem_cons_of_mem _ ha) b (List.mem_cons_of_mem _ hb)
    have key : ∀ r : List PV, (∀ y ∈ r, y ∈ l) → insP f x r = insP g x r ∧ ∀ z ∈ insP f x r, z ∈ x :: l := by
      intro r
      induction r with
      | nil => intro _; exact ⟨rfl, fun z hz => by simp only [insP, List.mem_singleton] at hz; subst hz; exact List.mem_cons_self⟩
      | cons y r ih2 =>
        intro hr
        obtain ⟨k1, k2⟩ := ih2 fun z hz => hr z (List.mem_cons_of_mem _ hz)
        have e := h y (List.mem_cons_of_mem _ (hr y List.mem_cons_self)) x List.mem_cons_self
        simp only [insP, ← e]
        cases f y x with
        | true =>
          dsimp only
          refine ⟨by rw [k1], fun z hz => ?_⟩
          rcases List.mem_cons.mp hz with q | hz
          · exact q ▸ List.mem_cons_of_mem _ (hr y List.mem_cons_self)
          · exact k2 z hz
        | false =>
          dsimp only
          refine ⟨rfl, fun z hz => ?_⟩
          rcases List.mem_cons.mp hz with q | hz
          · exact q ▸ List.mem_cons_self
          · exact List.mem_cons_of_mem _ (hr z hz)
    obtain ⟨k1, k2⟩ := key (sortP f l) h2
    refine ⟨?_, k2⟩
    show insP f x (sortP f l) = insP g x (sortP g l)
    rw [k1, h1]
/-- the plain sort is the sort of data -/
theorem sortP_data {xs : List PV} (hp : PV.pls 60 xs = true) (ha : ∀ x ∈ xs, ∀ y ∈ xs, PV.alk x y = true) : sortP PV.lt xs = xs.mergeSort (PySem.W.dataLe false PV.data) := by
  have pl : ∀ x ∈ xs, x.pl 60 = true := by
    clear ha
    induction xs with
    | nil => intro x hx; cases hx
    | cons y ys ih =>
      simp only [PV.pls, Bool.and_eq_true] at hp
      intro x hx
      rcases List.mem_cons.mp hx with e | hx
      · exact e ▸ hp.1
      · exact ih hp.2 x hx
  have e := (sortP_congr (f := PV.lt) (g := fun a b => PySem.W.dataLt a.data b.data) (l := xs) fun x hx y hy => (lt_data 60 60 x y (pl x hx) (pl y hy) (ha x hx y hy)).symm).1
  rw [e]
  have t := PySem.W.sortLe_total (listOrd itemOrd) false fun b : PV => PySem.W.keyToks b.data
  exact sortP_merge (fun a b c h1 h2 => t.trans a b c h1 h2) (fun a b => (Bool.or_eq_true _ _).mpr (t.total a b)) xs
end Pl

set_option Elab.async false
set_option linter.all false
set_option maxRecDepth 100000
/-! Pl, part N: sorted, list, tuple of what can be gone through. -/
namespace Pl
open PySem PySem.Spec PyProof.Rows L2


/-! ### tuples, some of them empty, can be sorted -/
section
variable {prog : Program} {w : World} {A : Around} {s : Shared} {E : Value → Shared → Prop}
theorem lt_tups {xs ys : List PyData} {a b : Value} {as bs : List Addr} {Q : Bool → Shared → Prop} (ra : Reads s.heap a (.tuple xs) as) (rb : Reads s.heap b (.tuple ys) bs) (h : PySem.W.alike (.tuple xs) (.tuple ys) = true)
    (hu : A.units + min (PyData.tuple xs).depth (PyData.tuple ys).depth < cLine) (hq : Q (PySem.W.dataLt (.tuple xs) (.tuple ys)) s) : wpAny (model prog w) A (oneLt' true a b) Q E s := by
  have hal : PySem.W.alikeAll xs ys = true := by simpa [PySem.W.alike] using h
  cases ra with
  | @tuple l o vs n _ _ h1 h2 h3 h4 =>
    cases rb with
    | @tuple l' o' vs' n' _ _ k1 k2 k3 k4 =>
      have n1 : vs.size = xs.length := by simpa using SeqAt.ReadsAll.length _ _ _ h4
      have n2 : vs'.size = ys.length := by simpa using SeqAt.ReadsAll.length _ _ _ k4
      rw [PySem.W.dataLt_tuple, ← PySem.W.firstLt_toks xs ys hal, ← n1, ← n2] at hq
      rw [oneLt'_eq]
      simp only [if_true]
      refine wpAny_bind (wpAny_cRoomFor (SeqAt.room_here hu) ?_)
      obtain ⟨cls, dd, dat, sl⟩ := o
      obtain ⟨cls', dd', dat', sl'⟩ := o'
      simp only at h2 h3 k2 k3
      subst h2 h3 k2 k3
      refine wpAny_bind (wpAny_callSpecialIfBound?_slot (T := "tuple") ⟨_, h1, rfl⟩ PySem.F.slot_tuple_lt (call_meets PySem.F.slot_tuple_lt ⟨_, h1, rfl⟩ PySem.F.entry_tuple_lt (PySem.F.args_tuple_lt_2 _ _)
        (SeqAt.tuple_ltAt l l' vs vs' n n' dd dd' sl sl' (SeqAt.pairEq xs ys) (fun j => PySem.W.dataLt (xs.getD j .none) (ys.getD j .none))) ⟨h1, k1, fun j j1 j2 => ?_, fun j j1 j2 hj => ?_, ?_⟩))
      · have z := PySem.W.eqAt_alikeAll xs ys A.in1 s vs.toList vs'.toList _ _ h4 k4 hal (SeqAt.room_in hu) j (by simpa using j1) (by simpa using j2)
        simpa using z
      · have z := PySem.W.rcLt_alikeAll xs ys A.in1 s vs.toList vs'.toList _ _ h4 k4 hal (SeqAt.room_in hu) j (by simpa using j1) (by simpa using j2) hj
        simpa using z
      · exact wpAny_truthy_bool hq
theorem firsts_tup : ∀ {vs : List Value} {ds : List PyData} {Q : List (Option Value) → Shared → Prop}, PySem.W.EachIs (fun v d => ∃ as, Reads s.heap v d as) vs ds → (∀ d ∈ ds, ∃ xs, d = .tuple xs) →
    (∀ fs : List (Option Value), PySem.W.EachIs (fun f d => (f = none ↔ d = .tuple [])) fs ds → Q fs s) → wpAny (model prog w) A (vs.mapM firstOfTuple') Q E s
  | _, _, Q, .nil, _, h => by rw [List.mapM_nil]; exact wpAny_pure (h [] .nil)
  | _, _, Q, .cons (b := d) ⟨as, r⟩ t, ht, h => by
    obtain ⟨xs, rfl⟩ := ht d List.mem_cons_self
    cases r with
    | @tuple a o its n _ _ ho hc hd hr =>
      rw [List.mapM_cons]
      refine wpAny_bind ?_
      rw [PySem.W.kas_first_eq]
      refine wpAny_bind (wpAny_typeOf (T := "tuple") ⟨o, ho, hc⟩ ?_)
      rw [if_neg (by simp)]
      refine wpAny_bind (listItems_at ho hd (wpAny_pure (wpAny_bind (firsts_tup t (fun d hd => ht d (List.mem_cons_of_mem _ hd)) fun fs e => wpAny_pure (h _ (.cons ?_ e))))))
      have hl := SeqAt.ReadsAll.length _ _ _ hr
      rw [Array.getElem?_eq_none_iff]
      constructor
      · intro z
        cases xs with
        | nil => rfl
        | cons x xs => simp at hl; omega
      · intro z
        cases z
        simp at hl
        simp [hl]
theorem SortsTup {vs : List Value} {ds : List PyData} (e : PySem.W.EachIs (fun v d => ∃ as, Reads s.heap v d as) vs ds) (hal : PySem.W.AllAlike ds) (ht : ∀ d ∈ ds, ∃ xs, d = .tuple xs) (hx : .tuple [] ∈ ds) (hu : ∀ d, d ∈ ds → A.units + d.depth < cLine) :
    PySem.W.SortsAt prog w A s (PySem.W.dataKind s.heap ds) vs := by
  have room : ∀ {d d' : PyData}, d ∈ ds → A.units + min d.depth d'.depth < cLine := fun {d d'} hd => Nat.lt_of_le_of_lt (Nat.add_le_add_left (Nat.min_le_left _ _) _) (hu d hd)
  refine ⟨fun v hv => ?_, ?_⟩
  · obtain ⟨d, hd, as, r⟩ := e.left v hv
    exact ⟨_, PySem.W.dataKind_some hal hd r⟩
  · have start : ∀ {E : Value → Shared → Prop} {Q : SortKind → Shared → Prop}, 2 ≤ vs.length → (∀ fs : List (Option Value), PySem.W.EachIs (fun f d => (f = none ↔ d = .tuple [])) fs ds → wpAny (model prog w) A (do
        if (fs.toArray[0]?.bind id).isSome then return general'
        return if (← oneTypeOnly' vs.toArray).isSome then oneType' else general') Q E s) → wpAny (model prog w) A (keyKind' vs.toArray) Q E s := by
      intro E Q h2 h
      rw [keyKind'_eq, List.mapM_toArray, map_eq_pure_bind]
      refine wpAny_bind (wpAny_bind (firsts_tup e ht fun fs ef => wpAny_pure ?_))
      have hn : ¬ (fs.toArray.all fun x => x.isSome) = true := by
        rw [List.all_toArray, List.all_eq_true]
        intro z
        have key : ∀ {fs : List (Option Value)} {ds : List PyData}, PySem.W.EachIs (fun f d => (f = none ↔ d = .tuple [])) fs ds → .tuple [] ∈ ds → none ∈ fs := by
          intro fs ds ef
          induction ef with
          | nil => intro z; cases z
          | cons h t ih =>
            intro z
            rcases List.mem_cons.mp z with q | q
            · rw [h.mpr q.symm]; exact List.mem_cons_self
            · exact List.mem_cons_of_mem _ (ih q)
        have := z none (key ef hx)
        simp at this
      rw [if_neg hn]
      exact h fs ef
    have allT : ∀ {E : Value → Shared → Prop} {Q : SortKind → Shared → Prop}, 0 < vs.length → Q oneType' s → wpAny (model prog w) A (do return if (← oneTypeOnly' vs.toArray).isSome then oneType' else general') Q E s := by
      intro E Q h0 h
      rw [oneTypeOnly'_eq, List.mapM_toArray, map_eq_pure_bind]
      refine wpAny_bind (wpAny_bind (wpAny_bind (PySem.W.kas_mapM (r := Value.type "tuple") _ (fun v hv Q' hq => ?_) (wpAny_pure ?_))))
      · obtain ⟨d, hd, as, r⟩ := e.left v hv
        obtain ⟨xs, rfl⟩ := ht d hd
        exact (PySem.W.looks_reads (M := model prog w) r).here hq
      · have hall : ((List.map (fun _ => Value.type "tuple") vs).toArray.all fun x => x == Value.type "tuple") = true := by
          simp only [List.all_toArray, List.all_map, List.all_eq_true]
          intro _ _
          rfl
        have hf : (List.map (fun _ => Value.type "tuple") vs).toArray[0]? = some (Value.type "tuple") := by
          cases vs with
          | nil => simp at h0
          | cons v vs => simp
        rw [hf]
        simp only [hall, if_true]
        exact wpAny_pure (wpAny_pure h)
    cases ds with
    | nil => cases hx
    | cons d ds =>
      by_cases hd0 : d = .tuple []
      · refine ⟨oneType', fun E x y a b Q ha hb hq => ?_, fun h2 E Q hq => start h2 fun fs ef => ?_⟩
        · obtain ⟨d1, as, h1, ra, rfl⟩ := PySem.W.dataKind_inv ha
          obtain ⟨d2, as', h2, rb, rfl⟩ := PySem.W.dataKind_inv hb
          have hdd := hal d1 h1 d2 h2
          have hroom := room (d' := d2) h1
          obtain ⟨x1, rfl⟩ := ht d1 h1
          obtain ⟨x2, rfl⟩ := ht d2 h2
          rw [keyLt'_oneType]
          exact lt_tups ra rb hdd hroom hq
        · cases ef with
          | cons h t =>
            rw [h.mpr hd0]
            exact allT (by omega) hq
      · refine ⟨general', fun E x y a b Q ha hb hq => ?_, fun h2 E Q hq => start h2 fun fs ef => ?_⟩
        · obtain ⟨d1, as, h1, ra, rfl⟩ := PySem.W.dataKind_inv ha
          obtain ⟨d2, as', h2, rb, rfl⟩ := PySem.W.dataKind_inv hb
          have hdd := hal d1 h1 d2 h2
          have hroom := room (d' := d2) h1
          obtain ⟨x1, rfl⟩ := ht d1 h1
          show wpAny (model prog w) A (oneLt' false x y) Q E s
          exact PySem.W.oneLt_alike (fun z => nomatch z) ra rb hdd (fun z => nomatch z) hroom hq
        · cases ef with
          | @cons f _ fs _ h t =>
            cases f with
            | none => exact absurd (h.mp rfl) hd0
            | some f => exact wpAny_pure hq
end
end Pl

set_option Elab.async false
set_option linter.all false
set_option maxRecDepth 100000
/-! Pl, part O: list, tuple, sorted, any, all, sum, max, min. -/
namespace Pl
open PySem PySem.Spec PyProof.Rows L2

section
variable {Γ : Ct} {X : Cx} {ρ : Rho} {H : Hp} {st : Sto} {pins : List (Addr × Obj)} {s : Shared} {σ : L2.St} {a : Addr}
/-- what one goes through: a row's items, a dict's keys -/
def itemsOf (st : Sto) (x : PV) : Option (List PV) := match seqOf st x with
  | some xs => some xs
  | none => match dctOf st x with
    | some kvs => some (kvs.map (·.1))
    | none => none
theorem keys_of (c : Cc Γ X) (I : Inv X pins σ H s) {es : List (V × NestedKey × V)} {kvs : List (PV × PV)} (h : DR H a (DN Γ.w a es)) (r : RepD Γ ρ H kvs es) :
    ∃ (o : Obj) (ents : Array DictEntry) (ep : Nat), s.heap.get? a = some o ∧ o.ExactDict ∧ o.data = .dict ents ep ∧ (a == sysModules) = false ∧ ents.size ≤ sizeLine ∧ Vals (es.map (·.1)) (ents.toList.map (·.key)) ∧ Reps Γ ρ H (kvs.map (·.1)) (es.map (·.1)) := by
  have q : DIs Γ.w a es s.heap := (h.ok I.hok).1
  obtain ⟨q1, q2, q3, o, ents, ep, ho, hx, hd, pr⟩ := q
  refine ⟨o, ents, ep, ho, hx, hd, q1, ?_, ?_, ?_⟩
  · have := Paired.length pr
    have e2 : ents.toList.length = ents.size := Array.length_toList
    omega
  · clear r q2 q3 h
    generalize ents.toList = l at pr
    induction pr with
    | nil => exact .nil
    | cons h t ih => exact .cons h.1 ih
  · clear q2 q3 pr h
    induction es generalizing kvs with
    | nil => cases r; exact .nil
    | cons e es ih =>
      cases r with
      | cons r1 _ _ r4 => exact .cons r1 (ih r4)
theorem items_vals {us : Array DictEntry} {acc : Array Value} (hi : ItemsOf (fun i v => ∃ en : DictEntry, us[i]? = some en ∧ v = en.key) acc us.size) : acc.toList = us.toList.map (·.key) := by
  have hl : acc.toList.length = us.size := by rw [Array.length_toList, hi.1]
  apply List.ext_getElem?
  intro j
  rw [List.getElem?_map, Array.getElem?_toList, Array.getElem?_toList]
  cases hj : acc[j]? with
  | none =>
    rw [Array.getElem?_eq_none_iff] at hj
    have : us[j]? = none := by rw [Array.getElem?_eq_none_iff]; rw [hi.1] at hj; exact hj
    rw [this]; rfl
  | some v =>
    obtain ⟨en, he, hv⟩ := hi.2 j v hj
    rw [he, hv]; rfl
theorem collect_P (c : Cc Γ X) (I : Inv X pins σ H s) {A : Around} {E : Value → Shared → Prop} {R : List Value → Shared → Prop} {x : PV} {v : V} {u : Value} {xs : List PV} (hA : A.handled = none) (hs : RSt Γ ρ st H) (hi : itemsOf st x = some xs) (r : Rep Γ ρ H x v) (ru : RelV v u)
    (h : ∀ h' tk us vs, Inv X pins σ H { s with heap := h', toks := tk } → Vals vs us → Reps Γ ρ H xs vs → vs.length ≤ sizeLine → R us { s with heap := h', toks := tk }) : wpAny (model X.prog X.w) A (collect u) R E s := by
  unfold itemsOf at hi
  cases hq : seqOf st x with
  | some ys =>
    rw [hq] at hi
    cases hi
    obtain ⟨p0, vs, rfl, hv, hr⟩ := seqOf_okX c hs hq r
    cases ru
    rcases hv with hv | hv
    · obtain ⟨its, rv, pl, hz⟩ := I.list hv
      obtain ⟨o, ho, hc, n, hd⟩ := pl.isList
      exact wpAny_collect_seq p0 (.inl rfl) ho hc hd (fun h' k => h h' s.toks its vs (I.kept k) rv hr hz) (by rw [List.size_toArray, ← rv.length]; exact hz)
    · obtain ⟨its, rv, ⟨o, ho, hc, n, hd⟩, hz⟩ := I.tuple hv
      exact wpAny_collect_seq p0 (.inr rfl) ho hc hd (fun h' k => h h' s.toks its vs (I.kept k) rv hr hz) (by rw [List.size_toArray, ← rv.length]; exact hz)
  | none =>
    rw [hq] at hi
    dsimp only at hi
    cases hd : dctOf st x with
    | none => rw [hd] at hi; cases hi
    | some kvs =>
      rw [hd] at hi
      cases hi
      obtain ⟨ad, es, rfl, hr, rd⟩ := dctOf_ok hs hd r
      cases ru
      obtain ⟨o, ents, ep, k1, k2, k3, k4, k5, k6, k7⟩ := keys_of c I hr rd
      refine PySem.W.kdu_collect (kdl_raw k4 k2 k3) hA k1 k5 fun h' tk acc hk hacc => ?_
      have e := items_vals hacc
      rw [e]
      exact h h' tk _ _ (I.kept hk) k6 k7 (by rw [k6.length, List.length_map, Array.length_toList]; exact k5)
/-- sorted(x) -/
def allAlk (xs : List PV) : Bool := xs.all fun x => xs.all fun y => PV.alk x y
def PV.isNon : PV → Bool
  | .non => true
  | _ => false
def sortOk (xs : List PV) : Bool := PV.pls 60 xs && allAlk xs && (xs.all PV.isTup || xs.all fun x => !x.isTup && !x.isNon)
def gSorted (x : PV) (st : Sto) : R PV := match itemsOf st x with
  | some xs => match decide (xs.length ≤ LIM) && sortOk xs with
    | true => .ok (.lst (sortP PV.lt xs)) st
    | false => .stuck
  | none => .stuck
theorem datas_map : ∀ xs : List PV, PV.datas xs = xs.map PV.data
  | [] => rfl
  | x :: xs => by simp only [PV.datas, List.map_cons, datas_map xs]
theorem sortP_length {lt : PV → PV → Bool} : ∀ xs : List PV, (sortP lt xs).length = xs.length
  | [] => rfl
  | x :: xs => by
    have key : ∀ r : List PV, (insP lt x r).length = r.length + 1 := by
      intro r
      induction r with
      | nil => rfl
      | cons y r ih =>
        simp only [insP]
        cases lt y x with
        | true => dsimp only; rw [List.length_cons, ih, List.length_cons]
        | false => dsimp only; rw [List.length_cons, List.length_cons]
    show (insP lt x (sortP lt xs)).length = _
    rw [key, sortP_length xs, List.length_cons]
theorem each_rep : ∀ {xs : List PV} {vs : List V} {us : List Value}, Reps Γ ρ H xs vs → Vals vs us → PySem.W.EachIs (fun u x => ∃ v, Rep Γ ρ H x v ∧ RelV v u) us xs
  | _, _, _, .nil, .nil => .nil
  | _, _, _, .cons a b, .cons c d => .cons ⟨_, a, c⟩ (each_rep b d)
theorem rep_each : ∀ {xs : List PV} {us : List Value}, PySem.W.EachIs (fun u x => ∃ v, Rep Γ ρ H x v ∧ RelV v u) us xs → ∃ vs, Reps Γ ρ H xs vs ∧ Vals vs us
  | _, _, .nil => ⟨[], .nil, .nil⟩
  | _, _, .cons ⟨v, a, b⟩ t => let ⟨vs, c, d⟩ := rep_each t; ⟨v :: vs, .cons a c, .cons b d⟩
theorem each_all {α β : Type} {P : β → Prop} {R S : α → β → Prop} (f : ∀ a b, P b → R a b → S a b) : ∀ {as : List α} {bs : List β}, (∀ b ∈ bs, P b) → PySem.W.EachIs R as bs → PySem.W.EachIs S as bs
  | _, _, _, .nil => .nil
  | _, _, h, .cons a t => .cons (f _ _ (h _ List.mem_cons_self) a) (each_all f (fun b hb => h b (List.mem_cons_of_mem _ hb)) t)
theorem pls_mem {n : Nat} : ∀ {xs : List PV}, PV.pls n xs = true → ∀ x ∈ xs, x.pl n = true
  | [], _, _, hx => by cases hx
  | y :: ys, h, x, hx => by
    simp only [PV.pls, Bool.and_eq_true] at h
    rcases List.mem_cons.mp hx with e | hx
    · exact e ▸ h.1
    · exact pls_mem h.2 x hx
theorem cr_sortedP (c : Cc Γ X) : CallR X (.builtin "sorted") (RC Γ (o1 gSorted)) := by
  intro pins s σ H xs us Q I r hh
  obtain ⟨ρ, st, x, v, rfl, h, a1, p⟩ := rc1 hh
  obtain ⟨u, rfl, ru⟩ := r.one
  unfold gSorted at p
  cases hi : itemsOf st x with
  | none => rw [hi] at p; exact p.elim
  | some xs =>
    rw [hi] at p
    dsimp only at p
    split at p
    · rename_i hok
      rw [Bool.and_eq_true, decide_eq_true_eq] at hok
      obtain ⟨hlen, hok⟩ := hok
      unfold sortOk at hok
      rw [Bool.and_eq_true, Bool.and_eq_true] at hok
      obtain ⟨⟨hp, hal⟩, hk⟩ := hok
      have hal : ∀ x ∈ xs, ∀ y ∈ xs, PV.alk x y = true := fun x hx y hy => List.all_eq_true.mp (List.all_eq_true.mp hal x hx) y hy
      have hAll : PySem.W.AllAlike (xs.map PV.data) := fun d hd d' hd' => by
        obtain ⟨x, hx, rfl⟩ := List.mem_map.mp hd
        obtain ⟨y, hy, rfl⟩ := List.mem_map.mp hd'
        exact alk_data x y (hal x hx y hy)
      have hu := c.un
      refine Calls.call_function_entry kind_sorted plain_sorted entry_sorted (args_sorted1 _) ?_
      unfold Builtin.«sorted»
      refine wpAny_bind (m := checkCount "sorted" 1 1 _) (wpAny_pure ?_)
      refine wpAny_bind (collect_P c I (A := X.A.in1) (I.ok.hd c.calm) h hi a1 ru fun h' tk us vs I1 rv rr hz => ?_)
      refine wpAny_bind (wpAny_newList ?_ (by rw [← rv.length]; exact hz))
      have hoL : (h'.push (seqObj "list" us.toArray 0)).get? h'.objs.size = some (seqObj "list" us.toArray 0) := Heap.get?_push_size _ rfl
      show wpAny _ _ _ _ _ { s with heap := h'.push (seqObj "list" us.toArray 0), toks := tk }
      have each := each_rep rr rv
      have reads : PySem.W.EachIs (fun v b => ∃ as, Reads (PySem.W.sortingHeap (h'.push (seqObj "list" us.toArray 0)) h'.objs.size us) v (PV.data b) as) us xs := by
        refine each_all (P := fun b => b.pl 60 = true) (fun u b hb ⟨v, ra, rb⟩ => ?_) (pls_mem hp) each
        have dp := Rep.dp 60 b v hb ra
        rw [← c.K] at dp
        obtain ⟨as, q⟩ := Dp.reads I1 _ v u dp rb
        refine ⟨as, PyProof.Rows.Reads.keeps (fun b o e => ?_) q⟩
        have hb : b < h'.objs.size := Heap.lt_size e
        exact PySem.W.sortingHeap_old (Nat.ne_of_lt hb) (Heap.get?_push_of_some _ e)
      have room : ∀ d, d ∈ xs.map PV.data → X.A.in1.in1.units + d.depth < cLine := fun d hd => by
        obtain ⟨x, hx, rfl⟩ := List.mem_map.mp hd
        have := (PV.data_plain 60 x (pls_mem hp x hx)).2
        simp only [Around.in1_units]
        omega
      have S : PySem.W.SortsAt X.prog X.w X.A.in1.in1 { s with heap := PySem.W.sortingHeap (h'.push (seqObj "list" us.toArray 0)) h'.objs.size us, toks := tk } (PySem.W.dataKind (PySem.W.sortingHeap (h'.push (seqObj "list" us.toArray 0)) h'.objs.size us) (xs.map PV.data)) us := by
        have em := PySem.W.each_map (R := fun v d => ∃ as, Reads (PySem.W.sortingHeap (h'.push (seqObj "list" us.toArray 0)) h'.objs.size us) v d as) PV.data reads
        rw [Bool.or_eq_true] at hk
        rcases hk with hk | hk
        · have ht : ∀ d ∈ xs.map PV.data, ∃ zs, d = .tuple zs := fun d hd => by
            obtain ⟨x, hx, rfl⟩ := List.mem_map.mp hd
            have := List.all_eq_true.mp hk x hx
            cases x with
            | tup ys => exact ⟨_, rfl⟩
            | _ => simp [PV.isTup] at this
          by_cases hx : .tuple [] ∈ xs.map PV.data
          · exact SortsTup (s := { s with heap := PySem.W.sortingHeap (h'.push (seqObj "list" us.toArray 0)) h'.objs.size us, toks := tk }) em hAll ht hx room
          · refine PySem.W.SortsAt.data (s := { s with heap := PySem.W.sortingHeap (h'.push (seqObj "list" us.toArray 0)) h'.objs.size us, toks := tk }) em hAll (.inl fun d hd => ?_) room
            obtain ⟨zs, rfl⟩ := ht d hd
            cases zs with
            | nil => exact absurd hd hx
            | cons z zs => exact ⟨z, zs, rfl⟩
        · refine PySem.W.SortsAt.data (s := { s with heap := PySem.W.sortingHeap (h'.push (seqObj "list" us.toArray 0)) h'.objs.size us, toks := tk }) em hAll (.inr fun d hd => ?_) room
          obtain ⟨x, hx, rfl⟩ := List.mem_map.mp hd
          have := List.all_eq_true.mp hk x hx
          have hpx := pls_mem hp x hx
          cases x with
          | tup ys => simp [PV.isTup] at this
          | non => simp [PV.isNon] at this
          | dct ys => simp [PV.pl] at hpx
          | loc ys => simp [PV.pl] at hpx
          | ty ys => simp [PV.pl] at hpx
          | _ => exact ⟨(fun z => nomatch z), fun _ z => nomatch z⟩
      refine wpAny_bind (wpAny_holding (wpAny_call_entry slot_list_sort ⟨_, hoL, rfl⟩ entry_list_sort
        (PySem.W.list_sort_vals (s := { s with heap := h'.push (seqObj "list" us.toArray 0), toks := tk }) hoL S (by rw [← rv.length]; exact hz) ⟨_, rfl, ?_⟩) (args_list_sort _)))
      have out := PySem.W.sortVals_data (R := fun u x => ∃ v, Rep Γ ρ H x v ∧ RelV v u) false each reads hAll
      rw [← sortP_data hp hal] at out
      obtain ⟨ws, w1, w2⟩ := rep_each out
      obtain ⟨e', he'⟩ := PyProof.Rows.sortedHeap_at (vs := us) (out := (PySem.W.sortVals (PySem.W.dataKind (PySem.W.sortingHeap (h'.push (seqObj "list" us.toArray 0)) h'.objs.size us) (xs.map PV.data)) false us us).toArray) hoL
      have hq := I1.hok.fresh (Nat.le_refl _)
      refine wpAny_pure ⟨_, rfl, .ref h'.objs.size, upd H h'.objs.size (.lst ws), I1.laid (t' := tk) (fun b o e => ?_) (Nat.le_refl _) (show ObjOk X.prog X.w _ _ _ (.lst ws) from ⟨?_, _, e', w2, he'⟩), rfl, ?_⟩
      · have hb : b < h'.objs.size := Heap.lt_size e
        rw [PyProof.Rows.sortedHeap_old (Nat.ne_of_lt hb) (by rw [size_push']; exact Nat.lt_succ_of_lt hb)]
        exact Heap.get?_push_of_some _ e
      · rw [← w1.length, sortP_length]
        exact lim_le hlen
      · exact p ρ _ _ (ext_new h hq) (rst_new h hq) (.lst (LstAt.new h hq) (w1.kp (ext_new h hq).kp))
    · exact p.elim
end
end Pl

set_option Elab.async false
set_option linter.all false
set_option maxRecDepth 100000
/-! Pl, part P: dict displays with stars: one dict put into another. -/
namespace Pl
open PySem PySem.Spec PyProof.Rows L2

def mergeE (xs : List Ent) : List Ent → List Ent
  | [] => xs
  | y :: ys => mergeE (putE xs y.1 y.2.1 y.2.2) ys
def okMergeE (xs : List Ent) : List Ent → Prop
  | [] => True
  | y :: ys => okLook y.1 xs = true ∧ xs.length ≤ sizeLine ∧ okMergeE (putE xs y.1 y.2.1 y.2.2) ys
section
variable {prog : Program} {w : World} {A : Around} {E : Value → Shared → Prop} {s : Shared} {d a : Addr} {xs ys : List Ent} {k : NestedKey} {key : Value}
theorem dput {v : Value} {Q : Unit → Shared → Prop} (hu : A.units + 8 < cLine) (hkey : NestedIs s.heap k key ∧ k.depth ≤ 8) (m : DRaw w s.heap d xs) (hl : okLook k xs = true) (hz : xs.length ≤ sizeLine)
    (h : ∀ h', DRaw w h' d (putE xs k key v) → Heap.SameBut d s.heap h' → Q () { s with heap := h' }) : wpAny (model prog w) A (dictPut d (k.hash w) key v) Q E s := by
  obtain ⟨hn, his, o, es, ep, ho, hc, hd, he⟩ := m
  unfold dictPut
  refine wpAny_bind (dfind hu hkey ho hd he his hn hl (fun hno => ?_) fun j p hj => ?_)
  · have hf := findE_not hno
    have hput : putE xs k key v = xs ++ [(k, key, v)] := by unfold putE; rw [hf]; rfl
    refine wpAny_updateDictKeys (hz := by rw [ent_size he]; exact hz) ho hd ?_
    have hs : Heap.SameBut d s.heap (s.heap.update d fun ob => ob.mapDictKeys fun es => es.push ⟨k.hash w, key, v⟩) := Heap.SameBut.update ..
    refine h _ ⟨putE_nodup hn, putE_ks (fun x hx => ⟨ks_same ho hd hs (his x hx).1, (his x hx).2⟩) ⟨ks_same ho hd hs hkey.1, hkey.2⟩, _, _, ep + 1, Heap.get?_update_self _ ho (Obj.isFreed_of_dict (Obj.data_mapDictKeys hd _)), hc.mapDictKeys _, Obj.data_mapDictKeys hd _, ?_⟩ hs
    rw [hput, Array.toList_push, he, List.map_append]
    rfl
  · have hf := findE_at hn hj
    have hput : putE xs k key v = xs.map fun x => if x.1 = k then (x.1, x.2.1, v) else x := by unfold putE; rw [hf]; rfl
    have hs : Heap.SameBut d s.heap (s.heap.update d fun ob => ob.mapDict fun es => es.modify j fun e => { e with val := v }) := Heap.SameBut.update ..
    refine wpAny_updateDict ho hd ?_
    refine h _ ⟨putE_nodup hn, putE_ks (fun x hx => ⟨ks_same ho hd hs (his x hx).1, (his x hx).2⟩) ⟨ks_same ho hd hs hkey.1, hkey.2⟩, _, _, ep, Heap.get?_update_self _ ho (Obj.isFreed_of_dict (Obj.data_mapDict hd _)), hc.mapDict _, Obj.data_mapDict hd _, ?_⟩ hs
    rw [hput, Array.toList_modify, he]
    exact modify_eq hn hj
theorem DRaw.keep {h h' : Heap} (m : DRaw w h a ys) {o : Obj} {es : Array DictEntry} {ep : Nat} (ho : h.get? d = some o) (hd : o.data = .dict es ep) (hne : a ≠ d) (hs : Heap.SameBut d h h') : DRaw w h' a ys :=
  ⟨m.nd, fun x hx => ⟨ks_same ho hd hs (m.ks x hx).1, (m.ks x hx).2⟩, let ⟨q, es, ep, e, r⟩ := m.ob; ⟨q, es, ep, (hs.2 a hne).trans e, r⟩⟩
theorem dmerge {Q : Unit → Shared → Prop} (hu : A.units + 8 < cLine) (hne : a ≠ d) (ha : (a == sysModules) = false) (md : DRaw w s.heap d xs) (ma : DRaw w s.heap a ys) (hok : okMergeE xs ys) (hfl : xs = [] → (ys.all fun y => flatK y.1) = true ∨ ys.length ≤ 1)
    (h : ∀ h', DRaw w h' d (mergeE xs ys) → Heap.SameBut d s.heap h' → Q () { s with heap := h' }) : wpAny (model prog w) A (mergeMapping d (.ref a) false) Q E s := by
  have hT := ma.typeIs
  obtain ⟨o, es, ep, ho, hx, hd, he⟩ := ma.ob
  obtain ⟨od, eds, epd, hod, hxd, hdd, hed⟩ := md.ob
  unfold mergeMapping
  refine wpAny_bind (wpAny_isInstance hT isSubtype_dict_dict ?_)
  rw [if_pos rfl]
  refine wpAny_bind (wpAny_specialOf hT PySem.F.slot_dict_iter.lookup (wpAny_bind (wpAny_pure ?_)))
  rw [show ((some (Value.builtin "dict.__iter__") : Option Value) == some (.builtin "dict.__iter__")) = true from by simp]
  dsimp only
  rw [if_neg (by rw [ha]; exact Bool.false_ne_true)]
  refine wpAny_bind (wpAny_dictEntries hod hdd ?_)
  by_cases hem : eds.isEmpty = true
  rw [if_pos hem]
  have hx0 : xs = [] := by
    have h1 := ent_size hed
    have h2 : eds.size = 0 := by simpa [Array.isEmpty] using hem
    exact List.eq_nil_of_length_eq_zero (by omega)
  refine wpAny_bind (wpAny_dictEntries ho hd ?_)
  refine wpAny_bind ?_
  rw [← Array.forIn_toList]
  refine wpAny_forIn_list _ (fun rest _ s' => s' = s ∧ ∀ e ∈ rest, e ∈ es.toList) _ ?turn ?fin _ _ ⟨rfl, fun _ z => z⟩
  case turn =>
    rintro e rest b s' ⟨rfl, hm⟩
    have hmem : e ∈ ys.map (entD w) := he ▸ hm e List.mem_cons_self
    obtain ⟨y, hy, rfl⟩ := List.mem_map.mp hmem
    have next : ∀ z ∈ rest, z ∈ es.toList := fun z hz => hm z (List.mem_cons_of_mem _ hz)
    have hk := (ma.ks y hy).1
    cases hf : flatK y.1 with
    | true =>
      have hb := flat_byValue hk hf
      obtain ⟨y1, y2, y3⟩ := y
      cases y2 with
      | ref q => cases hb
      | _ => exact wpAny_pure ⟨rfl, next⟩
    | false =>
      obtain ⟨q, hq⟩ := tup_ref hk hf
      have hone : ys.length ≤ 1 := by
        rcases hfl hx0 with z | z
        · have := List.all_eq_true.mp z y hy
          rw [hf] at this; cases this
        · exact z
      obtain ⟨y1, y2, y3⟩ := y
      simp only at hq hk hf
      subst hq
      have hTk : s'.TypeIs (.ref q) "tuple" := by
        cases hk with
        | tup g1 g2 _ _ => exact ⟨_, g1, g2⟩
      refine (show wpAny (model prog w) A (specialOf (Value.ref q) (Str.ofString "__eq__") >>= _) _ _ _ from wpAny_bind (wpAny_specialOf hTk PySem.F.slot_tuple_eq.lookup ?_))
      rw [if_pos (by decide)]
      rw [if_neg (show ¬ (es.filter fun e => e.hash == (entD w (y1, Value.ref q, y3)).hash).size > 1 from by
        have : (es.filter fun e => e.hash == (entD w (y1, Value.ref q, y3)).hash).size ≤ es.size := Array.size_filter_le
        have e1 := ent_size he
        omega)]
      exact wpAny_pure ⟨rfl, next⟩
  intro b s' hs
  rw [hs.1]
  rotate_left
  rw [if_neg hem]
  rotate_right
  all_goals (
    refine wpAny_bind (wpAny_dictEntries ho hd (wpAny_bind (wpAny_dictEpoch ho hd ?_)))
    refine wpAny_bind ?_
    refine wpAny_forIn_list _ (fun rest _ s' => ∃ i h' acc, rest = List.range' i (es.size - i) ∧ s' = { s with heap := h' } ∧ DRaw w h' d acc ∧ Heap.SameBut d s.heap h' ∧ okMergeE acc (ys.drop i) ∧ mergeE acc (ys.drop i) = mergeE xs ys) _ ?_ ?_ _ _
      ⟨0, s.heap, xs, by rw [List.range_eq_range', Nat.sub_zero], rfl, md, Heap.SameBut.refl _ _, hok, rfl⟩
    · rintro x rest b s' ⟨i, h', acc, hr, rfl, m', sb, ok', eq'⟩
      have hlt : i < es.size := by
        rcases Nat.lt_or_ge i es.size with z | z
        · exact z
        · rw [Nat.sub_eq_zero_of_le z] at hr; cases hr
      have hr' : x :: rest = i :: List.range' (i + 1) (es.size - (i + 1)) := by
        rw [hr]
        have : es.size - i = (es.size - (i + 1)) + 1 := by omega
        rw [this, List.range'_succ]
      obtain ⟨rfl, rfl⟩ := List.cons.inj hr'
      have hlx : x < ys.length := by rw [← ent_size he]; exact hlt
      have hxx : ys[x]? = some ys[x] := List.getElem?_eq_getElem hlx
      have hdr : ys.drop x = ys[x] :: ys.drop (x + 1) := List.drop_eq_getElem_cons hlx
      rw [hdr] at ok' eq'
      have ho' : h'.get? a = some o := (sb.2 a hne).trans ho
      refine wpAny_bind (wpAny_dictEntries (s := { s with heap := h' }) ho' hd ?_)
      rw [ent_at he x, hxx]
      dsimp only [Option.map_some, entD]
      have hk := ma.ks _ (List.getElem_mem hlx)
      refine wpAny_bind (wpAny_holding ?_)
      rw [if_neg Bool.false_ne_true]
      refine dput (s := { s with heap := h' }) hu ⟨ks_same hod hdd sb hk.1, hk.2⟩ m' ok'.1 ok'.2.1 fun h'' m'' sb' => ?_
      have sb2 : Heap.SameBut d s.heap h'' := sb.trans sb'
      refine wpAny_bind (wpAny_dictEpoch (s := { s with heap := h'' }) ((sb2.2 a hne).trans ho) hd ?_)
      rw [if_neg (by simp)]
      exact wpAny_pure ⟨x + 1, h'', _, rfl, rfl, m'', sb2, ok'.2.2, eq'⟩
    · rintro b s' ⟨i, h', acc, hr, rfl, m', sb, ok', eq'⟩
      have hge : ys.length ≤ i := by
        rcases Nat.lt_or_ge i es.size with z | z
        · have : es.size - i = (es.size - (i + 1)) + 1 := by omega
          rw [this, List.range'_succ] at hr
          cases hr
        · rw [ent_size he] at z; exact z
      rw [List.drop_eq_nil_of_le hge] at eq'
      have e2 : acc = mergeE xs ys := eq'
      subst e2
      exact wpAny_pure (h h' m' sb))
end
end Pl

set_option Elab.async false
set_option linter.all false
set_option maxRecDepth 100000
/-! Pl, part Q: {**d, k: v}, {k: v, **d}, {**d, **e}, {k: v, ..}. -/
namespace Pl
open PySem PySem.Spec PyProof.Rows L2

def dMerge (a : List (PV × PV)) : List (PV × PV) → List (PV × PV)
  | [] => a
  | p :: b => dMerge (dPut a p.1 p.2) b
def okMrg (a : List (PV × PV)) : List (PV × PV) → Bool
  | [] => true
  | p :: b => okKey a p.1 && decide (a.length < LIM) && okMrg (dPut a p.1 p.2) b
def dInto (a b : List (PV × PV)) : List (PV × PV) := match a with
  | [] => b
  | p :: a => dMerge (p :: a) b
/-- what the model merges into an empty dict -/
def okNew (b : List (PV × PV)) : Bool := (b.all fun p => !p.1.isTup) || decide (b.length ≤ 1)

section
variable {Γ : Ct} {X : Cx} {ρ : Rho} {H : Hp} {st : Sto} {a : Addr} {pins : List (Addr × Obj)} {s : Shared} {σ : L2.St}
theorem KVX.mrg : ∀ {kvs2 : List (PV × PV)} {ys : List Ent} {kvs : List (PV × PV)} {xs : List Ent}, KVX Γ ρ H kvs xs → (xs.map (·.1)).Nodup → KVX Γ ρ H kvs2 ys → okMrg kvs kvs2 = true → okMergeE xs ys ∧ KVX Γ ρ H (dMerge kvs kvs2) (mergeE xs ys) ∧ (dMerge kvs kvs2).length ≤ max kvs.length LIM
  | _, _, _, _, t, _, .nil, _ => ⟨trivial, t, Nat.le_max_left _ _⟩
  | _, _, kvs, xs, t, hn, .cons h a b c d t2, ok => by
    simp only [okMrg, Bool.and_eq_true, decide_eq_true_eq] at ok
    obtain ⟨⟨o1, o2⟩, o3⟩ := ok
    obtain ⟨nk, k1, k2, k3, k4⟩ := t.look o1
    rw [h] at k1
    cases k1
    have t' := t.put h a b c d hn
    obtain ⟨r1, r2, r3⟩ := KVX.mrg t' (putE_nodup hn) t2 o3
    refine ⟨⟨k4, ?_, r1⟩, r2, Nat.le_trans r3 ?_⟩
    · rw [← t.length]; exact lim_le (by omega)
    · rw [Nat.max_le]
      refine ⟨?_, Nat.le_max_right _ _⟩
      refine Nat.le_trans (dPut_length _ _ _) (Nat.le_trans (by omega) (Nat.le_max_right _ _))
theorem mergeE_app : ∀ {ys xs : List Ent}, ((xs ++ ys).map (·.1)).Nodup → mergeE xs ys = xs ++ ys
  | [], xs, _ => by rw [List.append_nil]; rfl
  | y :: ys, xs, hn => by
    have hnot : findE xs y.1 = none := by
      refine findE_not fun j p hj => ?_
      rw [List.map_append, List.map_cons, List.nodup_append] at hn
      exact hn.2.2 y.1 (List.mem_map.mpr ⟨_, List.mem_of_getElem? hj, rfl⟩) y.1 List.mem_cons_self rfl
    have e : putE xs y.1 y.2.1 y.2.2 = xs ++ [y] := by
      unfold putE
      rw [hnot, if_neg (by simp)]
    show mergeE (putE xs y.1 y.2.1 y.2.2) ys = _
    rw [e, mergeE_app (by rw [List.append_assoc]; exact hn), List.append_assoc]
    rfl
theorem okMergeE_app : ∀ {ys xs : List Ent}, ((xs ++ ys).map (·.1)).Nodup → (xs ++ ys).length ≤ sizeLine → (((xs ++ ys).all fun x => flatK x.1) = true ∨ (xs = [] ∧ ys.length ≤ 1)) → okMergeE xs ys
  | [], xs, _, _, _ => trivial
  | y :: ys, xs, hn, hz, hf => by
    have hnot : findE xs y.1 = none := by
      refine findE_not fun j p hj => ?_
      rw [List.map_append, List.map_cons, List.nodup_append] at hn
      exact hn.2.2 y.1 (List.mem_map.mpr ⟨_, List.mem_of_getElem? hj, rfl⟩) y.1 List.mem_cons_self rfl
    have e : putE xs y.1 y.2.1 y.2.2 = xs ++ [y] := by
      unfold putE
      rw [hnot, if_neg (by simp)]
    refine ⟨?_, by rw [List.length_append] at hz; omega, ?_⟩
    · unfold okLook
      rcases hf with hf | ⟨rfl, _⟩
      · rw [List.all_append, Bool.and_eq_true] at hf
        rw [hf.1, Bool.or_true]
      · simp
    · rw [e]
      rcases hf with hf | ⟨rfl, hl⟩
      · exact okMergeE_app (by rw [List.append_assoc]; exact hn) (by rw [List.append_assoc]; exact hz) (.inl (by rw [List.append_assoc]; exact hf))
      · have : ys = [] := List.eq_nil_of_length_eq_zero (by simp only [List.length_cons] at hl; omega)
        subst this
        trivial
/-- the dict at D takes in another's entries -/
theorem mrg_D (c : Cc Γ X) (I : Inv X pins σ H s) {A : Around} {E : Value → Shared → Prop} {D : Addr} {es es2 : List (V × NestedKey × V)} {acc kvs : List (PV × PV)} (hA : A.units + 8 < cLine) (hD : H D = some (DN Γ.w D es)) (rd : RepD Γ ρ H acc es)
    (hr : DR H a (DN Γ.w a es2)) (rd2 : RepD Γ ρ H kvs es2) (hne : a ≠ D) (ok : (acc = [] ∧ okNew kvs = true) ∨ (acc ≠ [] ∧ acc.length ≤ LIM ∧ okMrg acc kvs = true)) :
    wpAny (model X.prog X.w) A (mergeMapping D (.ref a) false) (fun _ s' => ∃ es', Inv X pins σ (upd H D (DN Γ.w D es')) s' ∧ RepD Γ ρ H (dInto acc kvs) es') E s := by
  obtain ⟨xs, m, t, z, hd⟩ := dn_open c I (.inl (.inl hD)) rd
  obtain ⟨ys, m2, t2, z2, hd2⟩ := dn_open c I hr rd2
  have fin : ∀ (kvs' : List (PV × PV)), KVX Γ ρ H kvs' (mergeE xs ys) → kvs'.length ≤ sizeLine → okMergeE xs ys → (xs = [] → (ys.all fun y => flatK y.1) = true ∨ ys.length ≤ 1) →
      wpAny (model X.prog X.w) A (mergeMapping D (.ref a) false) (fun _ s' => ∃ es', Inv X pins σ (upd H D (DN Γ.w D es')) s' ∧ RepD Γ ρ H kvs' es') E s := by
    intro kvs' tk hl ok1 ok2
    refine dmerge hA hne hd2 m m2 ok1 ok2 fun h' m' sb => ?_
    obtain ⟨es', d1, d2⟩ := dn_close (Γ := Γ) (by rw [← c.w]; exact m') tk hl hd
    exact ⟨es', d_write (t' := s.toks) I (by rw [hD]; trivial) sb d1.ob (dn_ok (P := X.prog) (H := upd H D (DN Γ.w D es')) d1), d2⟩
  rcases ok with ⟨rfl, ok⟩ | ⟨hne0, hl0, ok⟩
  · cases t
    have hn2 : ((([] : List Ent) ++ ys).map (·.1)).Nodup := m2.nd
    have hfl : (ys.all fun y => flatK y.1) = true ∨ ys.length ≤ 1 := by
      unfold okNew at ok
      rw [Bool.or_eq_true, decide_eq_true_eq] at ok
      rw [t2.flat, ← t2.length]
      exact ok
    have e := mergeE_app hn2
    rw [List.nil_append] at e
    refine fin kvs (by rw [e]; exact t2) z2 (okMergeE_app hn2 (by rw [List.nil_append, ← t2.length]; exact z2) (hfl.imp (fun q => by rw [List.nil_append]; exact q) fun q => ⟨rfl, q⟩)) fun _ => hfl
  · obtain ⟨r1, r2, r3⟩ := t.mrg m.nd t2 ok
    cases acc with
    | nil => exact absurd rfl hne0
    | cons p acc =>
      refine fin _ r2 (Nat.le_trans r3 (by rw [Nat.max_le]; exact ⟨lim_le hl0, lim_le (Nat.le_refl _)⟩)) r1 fun q => ?_
      subst q
      cases t
end

/-! ### what the displays run -/
section
variable {prog : Program} {w : World} {A : Around} {E : Value → Shared → Prop} {s : Shared} {Q : Value → Shared → Prop} {m m2 k v : Sem Value}
theorem mrg_quiet {d : Addr} {x : Value} {hs : Value → Sem Unit} {ht : Value → Sem Unit} {hu : Value → Sem Unit} {Q : Unit → Shared → Prop} (h : wpAny (model prog w) A (mergeMapping d x false) Q (fun _ _ => False) s) :
    wpAny (model prog w) A ((((holding [.ref d, x] (mergeMapping d x false)).onRaise hs).tryCatch ht).onRaise hu) Q E s :=
  wpAny_onRaise (wpAny_tryCatch (wpAny_onRaise (wpAny_holding (wpAny_mono h (fun _ _ q => q) fun _ _ q => q.elim))))
theorem mrg_quiet1 {d : Addr} {x : Value} {hs : Value → Sem Unit} {Q : Unit → Shared → Prop} (h : wpAny (model prog w) A (mergeMapping d x false) Q (fun _ _ => False) s) :
    wpAny (model prog w) A ((holding [.ref d, x] (mergeMapping d x false)).onRaise hs) Q E s :=
  wpAny_onRaise (wpAny_holding (wpAny_mono h (fun _ _ q => q) fun _ _ q => q.elim))
theorem sub_one {Q : Addr → Shared → Prop} (h : wpAny (model prog w) A k (fun kv s1 => wpAny (model prog w) A v (fun vv s2 => wpAny (model prog w) A (dictSet s.heap.objs.size kv vv) (fun _ s3 => Q s.heap.objs.size s3) E s2) E s1) E { s with heap := s.heap.push { cls := .type "dict", data := .dict #[] } }) :
    wpAny (model prog w) A (subDict [(k, v)]) Q E s := by
  unfold subDict
  refine wpAny_bind (wpAny_alloc ?_)
  refine wpAny_bind (wpAny_holding ?_)
  rw [if_pos (show ([(k, v)] : List (Sem Value × Sem Value)).length ≤ 15 by simp)]
  unfold evalPairs
  refine wpAny_bind (wpAny_bind (wpAny_mono h (fun kv s1 h1 => wpAny_bind (wpAny_holding (wpAny_mono h1 (fun vv s2 h2 => ?_) fun _ _ q => q))) fun _ _ q => q))
  unfold evalPairs
  refine wpAny_bind (wpAny_holding (wpAny_pure (wpAny_pure ?_)))
  refine wpAny_holding ?_
  rw [List.forIn_cons]
  refine wpAny_bind (wpAny_bind (wpAny_bind (wpAny_mono h2 (fun _ s3 h3 => wpAny_pure ?_) fun _ _ q => q)))
  dsimp only
  rw [List.forIn_nil]
  exact wpAny_pure (wpAny_pure (wpAny_pure h3))
theorem disp_sk (h : wpAny (model prog w) A m (fun mv s1 => wpAny (model prog w) A (mergeMapping s.heap.objs.size mv false) (fun _ s2 => wpAny (model prog w) A (subDict [(k, v)]) (fun D2 s3 => wpAny (model prog w) A (mergeMapping s.heap.objs.size (.ref D2) false) (fun _ s4 => Q (.ref s.heap.objs.size) s4) (fun _ _ => False) s3) E s2) (fun _ _ => False) s1) E
    { s with heap := s.heap.push { cls := .type "dict", data := .dict #[] } }) : wpAny (model prog w) A (dictDisplay [(none, m), (some k, v)]) Q E s := by
  unfold dictDisplay
  dsimp only
  rw [List.forIn_cons]
  refine wpAny_bind (wpAny_bind ?_)
  dsimp only
  rw [if_pos (show ([] : List (Sem Value × Sem Value)).isEmpty = true from rfl)]
  refine wpAny_bind (wpAny_pure ?_)
  dsimp only
  refine wpAny_bind (wpAny_alloc ?_)
  refine wpAny_bind (wpAny_holding (wpAny_mono h (fun mv s1 h1 => ?_) fun _ _ q => q))
  refine wpAny_bind (mrg_quiet (wpAny_mono h1 (fun _ s2 h2 => ?_) fun _ _ q => q))
  refine wpAny_pure ?_
  dsimp only
  rw [List.forIn_cons]
  refine wpAny_bind ?_
  dsimp only
  rw [if_neg (by simp)]
  refine wpAny_pure ?_
  dsimp only
  rw [List.forIn_nil]
  refine wpAny_pure ?_
  dsimp only
  rw [if_neg (by simp)]
  refine wpAny_bind (wpAny_bind (wpAny_holding (wpAny_mono h2 (fun D2 s3 h3 => ?_) fun _ _ q => q)))
  refine wpAny_bind (mrg_quiet1 (wpAny_mono h3 (fun _ s4 h4 => ?_) fun _ _ q => q))
  exact wpAny_pure (wpAny_pure h4)
theorem disp_ss (h : wpAny (model prog w) A m (fun mv s1 => wpAny (model prog w) A (mergeMapping s.heap.objs.size mv false) (fun _ s2 => wpAny (model prog w) A m2 (fun mv2 s3 => wpAny (model prog w) A (mergeMapping s.heap.objs.size mv2 false) (fun _ s4 => Q (.ref s.heap.objs.size) s4) (fun _ _ => False) s3) E s2) (fun _ _ => False) s1) E
    { s with heap := s.heap.push { cls := .type "dict", data := .dict #[] } }) : wpAny (model prog w) A (dictDisplay [(none, m), (none, m2)]) Q E s := by
  unfold dictDisplay
  dsimp only
  rw [List.forIn_cons]
  refine wpAny_bind (wpAny_bind ?_)
  dsimp only
  rw [if_pos (show ([] : List (Sem Value × Sem Value)).isEmpty = true from rfl)]
  refine wpAny_bind (wpAny_pure ?_)
  dsimp only
  refine wpAny_bind (wpAny_alloc ?_)
  refine wpAny_bind (wpAny_holding (wpAny_mono h (fun mv s1 h1 => ?_) fun _ _ q => q))
  refine wpAny_bind (mrg_quiet (wpAny_mono h1 (fun _ s2 h2 => ?_) fun _ _ q => q))
  refine wpAny_pure ?_
  dsimp only
  rw [List.forIn_cons]
  refine wpAny_bind ?_
  dsimp only
  rw [if_pos (show ([] : List (Sem Value × Sem Value)).isEmpty = true from rfl)]
  refine wpAny_bind (wpAny_pure ?_)
  dsimp only
  refine wpAny_bind (wpAny_pure ?_)
  refine wpAny_bind (wpAny_holding (wpAny_mono h2 (fun mv2 s3 h3 => ?_) fun _ _ q => q))
  refine wpAny_bind (mrg_quiet (wpAny_mono h3 (fun _ s4 h4 => ?_) fun _ _ q => q))
  refine wpAny_pure ?_
  dsimp only
  rw [List.forIn_nil]
  refine wpAny_pure ?_
  dsimp only
  rw [if_pos (show ([] : List (Sem Value × Sem Value)).isEmpty = true from rfl)]
  exact wpAny_bind (wpAny_pure (wpAny_pure h4))
theorem disp_ks (h : wpAny (model prog w) A (subDict [(k, v)]) (fun D s1 => wpAny (model prog w) A m (fun mv s2 => wpAny (model prog w) A (mergeMapping D mv false) (fun _ s3 => Q (.ref D) s3) (fun _ _ => False) s2) E s1) E s) :
    wpAny (model prog w) A (dictDisplay [(some k, v), (none, m)]) Q E s := by
  unfold dictDisplay
  dsimp only
  rw [List.forIn_cons]
  refine wpAny_bind (wpAny_bind ?_)
  dsimp only
  rw [if_neg (by simp)]
  refine wpAny_pure ?_
  dsimp only
  rw [List.forIn_cons]
  refine wpAny_bind ?_
  dsimp only
  rw [if_neg (by simp)]
  refine wpAny_bind (wpAny_bind (wpAny_mono h (fun D s1 h1 => wpAny_pure ?_) fun _ _ q => q))
  dsimp only
  refine wpAny_bind (wpAny_pure ?_)
  refine wpAny_bind (wpAny_holding (wpAny_mono h1 (fun mv s2 h2 => ?_) fun _ _ q => q))
  refine wpAny_bind (mrg_quiet (wpAny_mono h2 (fun _ s3 h3 => ?_) fun _ _ q => q))
  refine wpAny_pure ?_
  dsimp only
  rw [List.forIn_nil]
  refine wpAny_pure ?_
  dsimp only
  rw [if_pos (show ([] : List (Sem Value × Sem Value)).isEmpty = true from rfl)]
  exact wpAny_bind (wpAny_pure (wpAny_pure h3))
end
end Pl

set_option Elab.async false
set_option linter.all false
set_option maxRecDepth 100000
/-! Pl, part R: dict displays as plain functions. -/
namespace Pl
open PySem PySem.Spec PyProof.Rows L2

section
variable {Γ : Ct} {X : Cx} {ρ ρ1 ρ2 : Rho} {H H1 H2 : Hp} {st : Sto} {D : Addr}
theorem te_run {α β : Type} {f : EF} {k : PV → Sto → R α} {rep : Rho → Hp → α → β → Prop} {η : En} {σ : L2.St} {Q : β → Hp → Prop} (p : Po Γ ρ H rep ((f η st).bind k) Q) (s : RSt Γ ρ1 st H1) (n : REn Γ ρ1 H1 η σ) :
    TEf Γ f σ H1 (fun x H2 => ∃ ρ2 a st2, Ext ρ1 H1 ρ2 H2 ∧ RSt Γ ρ2 st2 H2 ∧ REn Γ ρ2 H2 η σ ∧ Rep Γ ρ2 H2 a x ∧ Po Γ ρ H rep (k a st2) Q) := by
  refine ⟨ρ1, η, st, s, n, ?_⟩
  revert p
  cases f η st with
  | stuck => exact fun p => p
  | exc _ _ _ => exact fun p => p
  | ok a st1 => exact fun p ρ2 H2 x e s r => ⟨ρ2, a, st1, e, s, n.kp e.kp, r, p⟩
/-- seen without what is hidden -/
abbrev Bare (ρ : Rho) (H : Hp) (ρ' : Rho) (H' : Hp) : Prop := Ext ρ H (ρ'.with ρ.h) H'
theorem bare_hide (hD : H D = none) {o : HO} : Bare ρ H (ρ.hide D) (upd H D o) := ⟨⟨[], by simp [Rho.with, Rho.hide]⟩, rfl, fun a u ha n => ⟨by rw [upd_ne (ne_of_none ha hD)]; exact ha, n⟩⟩
theorem Bare.ext (a : Bare ρ H ρ1 H1) (b : Ext ρ1 H1 ρ2 H2) : Bare ρ H ρ2 H2 := Ext.trans a ⟨b.pre, rfl, fun c o h n => b.keep c o h n⟩
theorem Bare.bare (a : Bare ρ H ρ1 H1) (b : Bare ρ1 H1 ρ2 H2) : Bare ρ H ρ2 H2 := Ext.trans a ⟨b.pre, rfl, fun c o h n => b.keep c o h n⟩
theorem Bare.upd (a : Bare ρ H ρ1 H1) (hD : H D = none) {o : HO} : Bare ρ H ρ1 (upd H1 D o) := ⟨a.pre, a.hd, fun c u h n => ⟨by rw [upd_ne (ne_of_none h hD)]; exact (a.keep c u h n).1, (a.keep c u h n).2⟩⟩
theorem laidD {pins : List (Addr × Obj)} {s : Shared} {σ : L2.St} (c : Cc Γ X) (I : Inv X pins σ H s) : Inv X pins σ (upd H s.heap.objs.size (DN Γ.w s.heap.objs.size [])) { s with heap := s.heap.push { cls := .type "dict", data := .dict #[] } } := by
  refine I.laid (t' := s.toks) (fun b o e => Heap.get?_push_of_some _ e) (Nat.le_refl _) ?_
  have z := dn_new (P := X.prog) Γ.w (upd H s.heap.objs.size (DN Γ.w s.heap.objs.size [])) s.heap I.big
  rw [c.w]
  exact z
theorem item_at {s : Shared} {e : Expr} {pos : Pos} {Q : Value → Shared → Prop} {E : Value → Shared → Prop} (h : wpAny (model X.prog X.w) X.A (eval e X.env) Q E s) : wpAny (model X.prog X.w) X.A (do let x ← eval e X.env; standAt pos; pure x) Q E s :=
  wpAny_bind (wpAny_mono h (fun x s' q => wpAny_bind (wpAny_standAt (wpAny_pure q))) fun _ _ q => q)
/-- the end: the dict at D is the value -/
theorem out_D {ρ' : Rho} {H' : Hp} {st' : Sto} {kvs : List (PV × PV)} {es : List (V × NestedKey × V)} {Q : VK} {pins : List (Addr × Obj)} {σ : L2.St} {s' : Shared} (I : Inv X pins σ H' s') (p : Po Γ ρ H (Rep Γ) (.ok (.dct kvs) st') Q) (hD0 : H D = none) (s0 : RSt Γ ρ st H) (b : Bare ρ H ρ' H') (s : RSt Γ ρ' st' H') (sub : ∀ a ∈ ρ.h, a ∈ ρ'.h) (hD : D ∈ ρ'.h) (e : H' D = some (DN Γ.w D es)) (rd : RepD Γ ρ' H' kvs es) : EP X pins σ Q (.ref D) s' := by
  refine fz_D I e fun o => ?_
  refine p (ρ'.with ρ.h) _ _ (b.upd hD0) (rst_bare (rst_grow s hD) sub) (.dct (.inl upd_same) (fun z => ?_) ((rd.kp (kp_grow hD)).kp (kp_bare sub)))
  rcases z with z | z
  · exact (s.hid D hD).2 z
  · obtain ⟨⟨u, hu⟩, _⟩ := s0.hid D z
    rw [hD0] at hu; cases hu
theorem rst_updH {ρ' : Rho} {H' : Hp} {st' : Sto} (s : RSt Γ ρ' st' H') (hD : D ∈ ρ'.h) {o : HO} : RSt Γ ρ' st' (upd H' D o) := rst_grow s hD
def eSK (f fk fv : EF) : EF := fun η st => (f η st).bind fun m s => match dctOf s m with
  | some kvs => match okNew kvs with
    | true => (fk η s).bind fun k s => (fv η s).bind fun v s => match okKey kvs k && decide (kvs.length < LIM) with
      | true => .ok (.dct (dPut kvs k v)) s
      | false => .stuck
    | false => .stuck
  | none => .stuck
theorem ok_sk (c : Cc Γ X) {e k v : Expr} {pos : Pos} {f fk fv : EF} (he : PE X e (TEf Γ f)) (hk : PE X k (TEf Γ fk)) (hv : PE X v (TEf Γ fv))
    (hsh : (evalEachOpt [none, some k] X.env).zip ((evalEach [e, v] X.env).map fun v => do let x ← v; standAt pos; pure x) = [(none, do let x ← eval e X.env; standAt pos; pure x), (some (eval k X.env), do let x ← eval v X.env; standAt pos; pure x)] := by rfl) :
    PE X (.Dict [none, some k] [e, v] pos) (TEf Γ (eSK f fk fv)) := by
  refine ⟨fun pins s σ H Q I ⟨ρ, η, st, s0, n0, p⟩ => ?_⟩
  rw [arm_eval_Dict, hsh]
  refine wpAny_bind (wpAny_standAt (disp_sk ?_))
  have hu := c.un
  generalize hDe : s.heap.objs.size = D
  have hD0 : H D = none := I.hok.fresh (Nat.le_of_eq hDe)
  have I1 := laidD c I
  rw [hDe] at I1
  refine item_at (thn (he.run pins _ σ _ _ I1 (te_run p (rst_hide s0 hD0) (n0.kp (kp_hide hD0)))) fun mv s1 ⟨x, H1, J1, r1, ρ1, a, st1, e1, s1', n1, q1, p1⟩ => ?_)
  have h1 : ρ1.h = D :: ρ.h := e1.hd
  have m1 : D ∈ ρ1.h := by rw [h1]; simp
  have b1 : Bare ρ H ρ1 H1 := (bare_hide hD0).ext e1
  have d1 : H1 D = some (DN Γ.w D []) := (e1.keep D _ upd_same ((rst_hide s0 hD0 (o := DN Γ.w D [])).hid D (by simp [Rho.hide])).2).1
  cases hd : dctOf st1 a with
  | none => rw [hd] at p1; exact p1.elim
  | some kvs =>
    rw [hd] at p1
    dsimp only at p1
    split at p1
    · rename_i hok
      obtain ⟨ad, es, rfl, hr, rd⟩ := dctOf_ok s1' hd q1
      cases r1
      have hne : ad ≠ D := fun z => by
        subst z
        -- what stands hidden is no value
        cases a with
        | dct ys => cases q1 with | dct t nn q => exact nn (.inr m1)
        | loc i => cases q1 with | loc hl => exact (s1'.hid _ m1).2 (List.mem_of_getElem? hl)
        | _ => cases hd
      refine wpAny_mono (mrg_D c J1 (by omega) d1 .nil hr rd hne (.inl ⟨rfl, hok⟩)) (fun _ s2 ⟨es2, J2, rd2⟩ => ?_) fun _ _ q => q
      have rd2 : RepD Γ ρ1 H1 kvs es2 := rd2
      have s2' := rst_updH s1' m1 (o := DN Γ.w D es2)
      have n2 := n1.kp (kp_grow (H := H1) m1 (o := DN Γ.w D es2))
      have rd2' := rd2.kp (kp_grow (H := H1) m1 (o := DN Γ.w D es2))
      have b2 : Bare ρ H ρ1 (upd H1 D (DN Γ.w D es2)) := b1.upd hD0
      have d2 : (upd H1 D (DN Γ.w D es2)) D = some (DN Γ.w D es2) := upd_same
      generalize upd H1 D (DN Γ.w D es2) = G at J2 s2' n2 rd2' b2 d2
      refine sub_one ?_
      generalize hD2e : s2.heap.objs.size = D2
      have hD20 : G D2 = none := J2.hok.fresh (Nat.le_of_eq hD2e)
      have J3 := laidD c J2
      rw [hD2e] at J3
      refine thn (hk.run pins _ σ _ _ J3 (te_run p1 (rst_hide s2' hD20) (n2.kp (kp_hide hD20)))) fun kv s3 ⟨y, H3, J4, r3, ρ3, ak, st3, e3, s3', n3, q3, p3⟩ => ?_
      refine item_at (thn (hv.run pins _ σ _ _ J4 (te_run p3 s3' n3)) fun vv s4 ⟨z, H4, J5, r4, ρ4, av, st4, e4, s4', n4, q4, p4⟩ => ?_)
      split at p4
      · rename_i hok2
        rw [Bool.and_eq_true, decide_eq_true_eq] at hok2
        have h3 : ρ3.h = D2 :: ρ1.h := e3.hd
        have h4 : ρ4.h = D2 :: D :: ρ.h := by rw [e4.hd, h3, h1]
        have m2 : D2 ∈ ρ4.h := by rw [h4]; simp
        have mD : D ∈ ρ4.h := by rw [h4]; simp
        have dd2 : H4 D2 = some (DN Γ.w D2 []) := (e4.keep D2 _ (e3.keep D2 _ upd_same ((rst_hide s2' hD20 (o := DN Γ.w D2 [])).hid D2 (by simp [Rho.hide])).2).1 (s3'.hid D2 (by rw [h3]; simp)).2).1
        have neD : D ≠ D2 := fun z => by rw [← z, d2] at hD20; cases hD20
        have dD : H4 D = some (DN Γ.w D es2) := (e4.keep D _ (e3.keep D _ (by rw [upd_ne neD]; exact d2) ((rst_hide s2' hD20 (o := DN Γ.w D2 [])).hid D (by simp [Rho.hide, h1])).2).1 (s3'.hid D (by rw [h3, h1]; simp)).2).1
        have ok0 : okKey [] ak = true := by
          have := hok2.1
          unfold okKey at this ⊢
          rw [Bool.and_eq_true] at this
          rw [this.1]
          simp
        have kk : Kp (ρ1.hide D2) (upd G D2 (DN Γ.w D2 [])) ρ4 H4 := (e3.trans e4).kp
        have rdk : RepD Γ ρ4 H4 kvs es2 := (rd2'.kp (kp_hide hD20)).kp kk
        refine wpAny_mono (put_D c J5 r3 r4 (Q := fun H' => ∃ es3, RepD Γ ρ4 H4 [(ak, av)] es3 ∧ H' = upd H4 D2 (DN Γ.w D2 es3)) ⟨ρ4, [], [], ak, av, dd2, .nil, q3.kp e4.kp, q4, ok0, by decide, fun es' r' => ⟨es', r', rfl⟩⟩) (fun _ s5 ⟨H5, J6, es3, rd3, hH5⟩ => ?_) fun _ _ q => q
        subst hH5
        have kg := kp_grow (H := H4) m2 (o := DN Γ.w D2 es3)
        have s5' := rst_updH s4' m2 (o := DN Γ.w D2 es3)
        have dD5 : (upd H4 D2 (DN Γ.w D2 es3)) D = some (DN Γ.w D es2) := by rw [upd_ne neD]; exact dD
        have dd5 : (upd H4 D2 (DN Γ.w D2 es3)) D2 = some (DN Γ.w D2 es3) := upd_same
        have okm : (kvs = [] ∧ okNew [(ak, av)] = true) ∨ (kvs ≠ [] ∧ kvs.length ≤ LIM ∧ okMrg kvs [(ak, av)] = true) := by
          cases kvs with
          | nil => exact .inl ⟨rfl, by simp [okNew]⟩
          | cons q qs => exact .inr ⟨by simp, Nat.le_of_lt hok2.2, by simp only [okMrg, hok2.1, decide_eq_true hok2.2, Bool.and_true]⟩
        refine wpAny_mono (mrg_D c J6 (by omega) dD5 (rdk.kp kg) (.inl (.inl dd5)) (rd3.kp kg) (Ne.symm neD) okm) (fun _ s6 ⟨es4, J7, rd4⟩ => ?_) fun _ _ q => q
        have mD5 : D ∈ ρ4.h := mD
        have b3 : Bare ρ H ρ4 (upd (upd H4 D2 (DN Γ.w D2 es3)) D (DN Γ.w D es4)) := ((b2.bare ((bare_hide hD20).ext (e3.trans e4) |>.upd hD20)).upd hD0)
        have e0 : dInto kvs [(ak, av)] = dPut kvs ak av := by cases kvs <;> rfl
        rw [e0] at rd4
        exact out_D J7 p4 hD0 s0 b3 (rst_updH s5' mD5) (fun b hb => by rw [h4]; simp [hb]) mD5 upd_same (rd4.kp (kp_grow mD5))
      · exact p4.elim
    · exact p1.elim
end
end Pl

set_option Elab.async false
set_option linter.all false
set_option maxRecDepth 100000
/-! Pl, part S: more dict displays; dict(pairs). -/
namespace Pl
open PySem PySem.Spec PyProof.Rows L2

section
variable {Γ : Ct} {X : Cx} {ρ ρ1 ρ2 : Rho} {H H1 H2 : Hp} {st : Sto} {D : Addr}
def eKS (fk fv f : EF) : EF := fun η st => (fk η st).bind fun k s => (fv η s).bind fun v s => match k.hk 8 with
  | true => (f η s).bind fun m s => match dctOf s m with
    | some kvs => match okMrg [(k, v)] kvs with
      | true => .ok (.dct (dMerge [(k, v)] kvs)) s
      | false => .stuck
    | none => .stuck
  | false => .stuck
theorem hid_ne {st' : Sto} {a : PV} {ad : Addr} {kvs : List (PV × PV)} (s : RSt Γ ρ st' H) (hD : D ∈ ρ.h) (hd : dctOf st' a = some kvs) (r : Rep Γ ρ H a (.ref ad)) : ad ≠ D := fun z => by
  subst z
  cases a with
  | dct ys => cases r with | dct t nn q => exact nn (.inr hD)
  | loc i => cases r with | loc hl => exact (s.hid _ hD).2 (List.mem_of_getElem? hl)
  | _ => cases hd
theorem ok_ks (c : Cc Γ X) {e k v : Expr} {pos : Pos} {f fk fv : EF} (hk : PE X k (TEf Γ fk)) (hv : PE X v (TEf Γ fv)) (he : PE X e (TEf Γ f))
    (hsh : (evalEachOpt [some k, none] X.env).zip ((evalEach [v, e] X.env).map fun v => do let x ← v; standAt pos; pure x) = [(some (eval k X.env), do let x ← eval v X.env; standAt pos; pure x), (none, do let x ← eval e X.env; standAt pos; pure x)] := by rfl) :
    PE X (.Dict [some k, none] [v, e] pos) (TEf Γ (eKS fk fv f)) := by
  refine ⟨fun pins s σ H Q I ⟨ρ, η, st, s0, n0, p⟩ => ?_⟩
  rw [arm_eval_Dict, hsh]
  refine wpAny_bind (wpAny_standAt (disp_ks (sub_one ?_)))
  have hu := c.un
  generalize hDe : s.heap.objs.size = D
  have hD0 : H D = none := I.hok.fresh (Nat.le_of_eq hDe)
  have I1 := laidD c I
  rw [hDe] at I1
  refine thn (hk.run pins _ σ _ _ I1 (te_run p (rst_hide s0 hD0) (n0.kp (kp_hide hD0)))) fun kv s1 ⟨x, H1, J1, r1, ρ1, ak, st1, e1, s1', n1, q1, p1⟩ => ?_
  refine item_at (thn (hv.run pins _ σ _ _ J1 (te_run p1 s1' n1)) fun vv s2 ⟨y, H2, J2, r2, ρ2, av, st2, e2, s2', n2, q2, p2⟩ => ?_)
  have h1 : ρ1.h = D :: ρ.h := e1.hd
  have h2 : ρ2.h = D :: ρ.h := e2.hd.trans h1
  have m2 : D ∈ ρ2.h := by rw [h2]; simp
  have b2 : Bare ρ H ρ2 H2 := ((bare_hide hD0).ext e1).ext e2
  have d2 : H2 D = some (DN Γ.w D []) := (e2.keep D _ (e1.keep D _ upd_same ((rst_hide s0 hD0 (o := DN Γ.w D [])).hid D (by simp [Rho.hide])).2).1 (s1'.hid D (by rw [h1]; simp)).2).1
  split at p2
  · rename_i hk8
    refine wpAny_mono (put_D c J2 r1 r2 (Q := fun H' => ∃ es3, RepD Γ ρ2 H2 [(ak, av)] es3 ∧ H' = upd H2 D (DN Γ.w D es3)) ⟨ρ2, [], [], ak, av, d2, .nil, q1.kp e2.kp, q2, by simp [okKey, hk8], by decide, fun es' r' => ⟨es', r', rfl⟩⟩) (fun _ s3 ⟨H3, J3, es3, rd3, hH3⟩ => ?_) fun _ _ q => q
    subst hH3
    have kg := kp_grow (H := H2) m2 (o := DN Γ.w D es3)
    refine item_at (thn (he.run pins _ σ _ _ J3 (te_run p2 (rst_updH s2' m2) (n2.kp kg))) fun mv s4 ⟨z, H4, J4, r4, ρ4, am, st4, e4, s4', n4, q4, p4⟩ => ?_)
    have h4 : ρ4.h = D :: ρ.h := e4.hd.trans h2
    have m4 : D ∈ ρ4.h := by rw [h4]; simp
    have d4 : H4 D = some (DN Γ.w D es3) := (e4.keep D _ upd_same ((rst_updH s2' m2 (o := DN Γ.w D es3)).hid D m2).2).1
    cases hd : dctOf st4 am with
    | none => rw [hd] at p4; exact p4.elim
    | some kvs =>
      rw [hd] at p4
      dsimp only at p4
      split at p4
      · rename_i hok
        obtain ⟨ad, es, rfl, hr, rd⟩ := dctOf_ok s4' hd q4
        cases r4
        refine wpAny_mono (mrg_D c J4 (by omega) d4 ((rd3.kp kg).kp e4.kp) hr rd (hid_ne s4' m4 hd q4) (.inr ⟨by simp, by simp [LIM], hok⟩)) (fun _ s5 ⟨es5, J5, rd5⟩ => ?_) fun _ _ q => q
        have b5 : Bare ρ H ρ4 (upd H4 D (DN Γ.w D es5)) := ((b2.upd hD0).ext e4).upd hD0
        exact out_D J5 p4 hD0 s0 b5 (rst_updH s4' m4) (fun b hb => by rw [h4]; simp [hb]) m4 upd_same ((show RepD Γ ρ4 H4 (dMerge [(ak, av)] kvs) es5 from rd5).kp (kp_grow m4))
      · exact p4.elim
  · exact p2.elim
def okInto (a b : List (PV × PV)) : Bool := match a with
  | [] => okNew b
  | p :: a => okMrg (p :: a) b
def eSS (f g : EF) : EF := fun η st => (f η st).bind fun m s => match dctOf s m with
  | some a => match okNew a && decide (a.length ≤ LIM) with
    | true => (g η s).bind fun m2 s => match dctOf s m2 with
      | some b => match okInto a b with
        | true => .ok (.dct (dInto a b)) s
        | false => .stuck
      | none => .stuck
    | false => .stuck
  | none => .stuck
theorem ok_ss (c : Cc Γ X) {e e2 : Expr} {pos : Pos} {f g : EF} (he : PE X e (TEf Γ f)) (he2 : PE X e2 (TEf Γ g))
    (hsh : (evalEachOpt [none, none] X.env).zip ((evalEach [e, e2] X.env).map fun v => do let x ← v; standAt pos; pure x) = [(none, do let x ← eval e X.env; standAt pos; pure x), (none, do let x ← eval e2 X.env; standAt pos; pure x)] := by rfl) :
    PE X (.Dict [none, none] [e, e2] pos) (TEf Γ (eSS f g)) := by
  refine ⟨fun pins s σ H Q I ⟨ρ, η, st, s0, n0, p⟩ => ?_⟩
  rw [arm_eval_Dict, hsh]
  refine wpAny_bind (wpAny_standAt (disp_ss ?_))
  have hu := c.un
  generalize hDe : s.heap.objs.size = D
  have hD0 : H D = none := I.hok.fresh (Nat.le_of_eq hDe)
  have I1 := laidD c I
  rw [hDe] at I1
  refine item_at (thn (he.run pins _ σ _ _ I1 (te_run p (rst_hide s0 hD0) (n0.kp (kp_hide hD0)))) fun mv s1 ⟨x, H1, J1, r1, ρ1, a, st1, e1, s1', n1, q1, p1⟩ => ?_)
  have h1 : ρ1.h = D :: ρ.h := e1.hd
  have m1 : D ∈ ρ1.h := by rw [h1]; simp
  have b1 : Bare ρ H ρ1 H1 := (bare_hide hD0).ext e1
  have d1 : H1 D = some (DN Γ.w D []) := (e1.keep D _ upd_same ((rst_hide s0 hD0 (o := DN Γ.w D [])).hid D (by simp [Rho.hide])).2).1
  cases hd : dctOf st1 a with
  | none => rw [hd] at p1; exact p1.elim
  | some kvs =>
    rw [hd] at p1
    dsimp only at p1
    split at p1
    · rename_i hok
      rw [Bool.and_eq_true, decide_eq_true_eq] at hok
      obtain ⟨ad, es, rfl, hr, rd⟩ := dctOf_ok s1' hd q1
      cases r1
      refine wpAny_mono (mrg_D c J1 (by omega) d1 .nil hr rd (hid_ne s1' m1 hd q1) (.inl ⟨rfl, hok.1⟩)) (fun _ s2 ⟨es2, J2, rd2⟩ => ?_) fun _ _ q => q
      have rd2 : RepD Γ ρ1 H1 kvs es2 := rd2
      have kg := kp_grow (H := H1) m1 (o := DN Γ.w D es2)
      refine item_at (thn (he2.run pins _ σ _ _ J2 (te_run p1 (rst_updH s1' m1) (n1.kp kg))) fun mv2 s3 ⟨y, H3, J3, r3, ρ3, a3, st3, e3, s3', n3, q3, p3⟩ => ?_)
      have h3 : ρ3.h = D :: ρ.h := e3.hd.trans h1
      have m3 : D ∈ ρ3.h := by rw [h3]; simp
      have d3 : H3 D = some (DN Γ.w D es2) := (e3.keep D _ upd_same ((rst_updH s1' m1 (o := DN Γ.w D es2)).hid D m1).2).1
      cases hd3 : dctOf st3 a3 with
      | none => rw [hd3] at p3; exact p3.elim
      | some kvs3 =>
        rw [hd3] at p3
        dsimp only at p3
        split at p3
        case h_2 => exact p3.elim
        rename_i hoi
        have okm : (kvs = [] ∧ okNew kvs3 = true) ∨ (kvs ≠ [] ∧ kvs.length ≤ LIM ∧ okMrg kvs kvs3 = true) := by
          clear p3
          cases kvs with
          | nil => exact .inl ⟨rfl, hoi⟩
          | cons q qs => exact .inr ⟨by simp, hok.2, hoi⟩
        obtain ⟨ad3, es3, rfl, hr3, rd3⟩ := dctOf_ok s3' hd3 q3
        cases r3
        refine wpAny_mono (mrg_D c J3 (by omega) d3 ((rd2.kp kg).kp e3.kp) hr3 rd3 (hid_ne s3' m3 hd3 q3) okm) (fun _ s5 ⟨es5, J5, rd5⟩ => ?_) fun _ _ q => q
        have b5 : Bare ρ H ρ3 (upd H3 D (DN Γ.w D es5)) := ((b1.upd hD0).ext e3).upd hD0
        exact out_D J5 p3 hD0 s0 b5 (rst_updH s3' m3) (fun b hb => by rw [h3]; simp [hb]) m3 upd_same (rd5.kp (kp_grow m3))
    · exact p1.elim
/-- {}: for good, in the store -/
def eD0 : EF := fun _ st => .ok (.dct []) st
def eD0N : EF := fun _ st => .ok (.loc st.length) (st ++ [.dct false []])
theorem run_d0 {pins : List (Addr × Obj)} {s : Shared} {σ : L2.St} {pos : Pos} {Q : VK} (c : Cc Γ X) (I : Inv X pins σ H s) (q : ∀ p s', H p = none → Inv X pins σ (upd H p (DN Γ.w p [])) s' → EP X pins σ Q (.ref p) s') : wpAny (model X.prog X.w) X.A (eval (.Dict [] [] pos) X.env) (EP X pins σ Q) X.xe s := by
  rw [arm_eval_Dict]
  have e : (evalEachOpt [] X.env).zip ((evalEach [] X.env).map fun v => do let x ← v; standAt pos; pure x) = [] := rfl
  rw [e]
  refine wpAny_bind (wpAny_standAt ?_)
  unfold dictDisplay
  dsimp only
  rw [List.forIn_nil]
  refine wpAny_bind (wpAny_pure ?_)
  dsimp only
  rw [if_pos (show ([] : List (Sem Value × Sem Value)).isEmpty = true from rfl)]
  refine wpAny_bind (wpAny_pure ?_)
  dsimp only
  refine wpAny_newObj_type ?_
  exact q _ _ (I.hok.fresh (Nat.le_refl _)) (laidD c I)
theorem ok_d0 (c : Cc Γ X) {pos : Pos} : PE X (.Dict [] [] pos) (TEf Γ eD0) := ⟨fun pins s σ H Q I ⟨ρ, η, st, s0, n0, p⟩ =>
  run_d0 c I fun q s' hq J => fz_D J upd_same fun o => by
    rw [upd_upd]
    exact p ρ _ _ (ext_new s0 hq) (rst_new s0 hq) (.dct (.inl upd_same) (s0.notin hq) .nil)⟩
theorem ok_d0N (c : Cc Γ X) {pos : Pos} : PE X (.Dict [] [] pos) (TEf Γ eD0N) := ⟨fun pins s σ H Q I ⟨ρ, η, st, s0, n0, p⟩ =>
  run_d0 c I fun q s' hq J => ⟨.ref q, _, J, rfl, p _ _ _ (ext_add s0 hq) (rst_add s0 hq (.dct upd_same .nil)) (loc_add s0)⟩⟩
/-- the hidden one comes into the store -/
theorem kp_unhide {ρ' : Rho} {h : List Addr} (mD : D ∈ ρ'.h) (sub : ∀ a ∈ h, a ∈ ρ'.h) : Kp ρ' H ((ρ'.with h).add D) H := ⟨fun n a hn => by
    show (ρ'.l ++ [D])[n]? = some a
    rw [List.getElem?_append_left (List.getElem?_eq_some_iff.mp hn).1]
    exact hn, fun a u hr n => ⟨hr, fun z => by
    rcases z with z | z
    · rcases List.mem_append.mp z with z | z
      · exact n (.inl z)
      · rw [List.mem_singleton] at z
        subst z
        exact n (.inr mD)
    · exact n (.inr (sub a z))⟩⟩
theorem ext_unhide {ρ' : Rho} {H' : Hp} (b : Bare ρ H ρ' H') (hD : H D = none) : Ext ρ H ((ρ'.with ρ.h).add D) H' := by
  obtain ⟨t, ht⟩ := b.pre
  refine ⟨⟨t ++ [D], ?_⟩, rfl, fun a o ha n => ⟨(b.keep a o ha n).1, fun z => ?_⟩⟩
  · show ρ'.l ++ [D] = ρ.l ++ (t ++ [D])
    rw [show ρ'.l = ρ.l ++ t from ht, List.append_assoc]
  · rcases List.mem_append.mp z with z | z
    · exact (b.keep a o ha n).2 z
    · rw [List.mem_singleton] at z
      subst z
      rw [hD] at ha; cases ha
theorem rst_unhide {ρ' : Rho} {st' : Sto} {h : List Addr} {ob : SO} (s : RSt Γ ρ' st' H) (mD : D ∈ ρ'.h) (sub : ∀ a ∈ h, a ∈ ρ'.h) (nD : D ∉ h) (new : ORep Γ ((ρ'.with h).add D) H ob D) : RSt Γ ((ρ'.with h).add D) (st' ++ [ob]) H := by
  have hl : D ∉ ρ'.l := (s.hid D mD).2
  refine ⟨by simp [Rho.add, Rho.with, s.len], ?_, fun i ob' a hi ha => ?_, fun a ha => ?_⟩
  · show (ρ'.l ++ [D]).Nodup
    rw [List.nodup_append]
    exact ⟨s.nd, by simp, fun a ha b hb => by rw [List.mem_singleton] at hb; subst hb; exact fun z => hl (z ▸ ha)⟩
  · have ha : (ρ'.l ++ [D])[i]? = some a := ha
    by_cases hlt : i < ρ'.l.length
    · rw [List.getElem?_append_left hlt] at ha
      rw [List.getElem?_append_left (by rw [← s.len]; exact hlt)] at hi
      exact (s.at' i ob' a hi ha).kp (kp_unhide mD sub) rfl
    · have e1 : i = ρ'.l.length := by
        have := (List.getElem?_eq_some_iff.mp ha).1
        simp at this; omega
      subst e1
      rw [List.getElem?_append_right (Nat.le_refl _)] at ha
      rw [s.len, List.getElem?_append_right (Nat.le_refl _)] at hi
      simp at ha hi
      subst ha; subst hi
      exact new
  · refine ⟨(s.hid a (sub a ha)).1, fun z => ?_⟩
    rcases List.mem_append.mp z with z | z
    · exact (s.hid a (sub a ha)).2 z
    · rw [List.mem_singleton] at z
      subst z
      exact nD ha
theorem loc_unhide {ρ' : Rho} {st' : Sto} {h : List Addr} (s : RSt Γ ρ' st' H) : Rep Γ ((ρ'.with h).add D) H (.loc st'.length) (.ref D) := .loc (by
  show (ρ'.l ++ [D])[st'.length]? = _
  rw [← s.len, List.getElem?_append_right (Nat.le_refl _)]; simp)
/-- {k: v}: for good, in the store -/
def eD1 (fk fv : EF) : EF := fun η st => (fk η st).bind fun k s => (fv η s).bind fun v s => match k.hk 8 with
  | true => .ok (.dct [(k, v)]) s
  | false => .stuck
def eD1N (fk fv : EF) : EF := fun η st => (fk η st).bind fun k s => (fv η s).bind fun v s => match k.hk 8 with
  | true => .ok (.loc s.length) (s ++ [.dct false [(k, v)]])
  | false => .stuck
theorem run_d1 {k v : Expr} {fk fv : EF} {pins : List (Addr × Obj)} {s : Shared} {σ : L2.St} {pos : Pos} {Q : VK} {R : PV → PV → Sto → R PV} (c : Cc Γ X) (I : Inv X pins σ H s) (hk : PE X k (TEf Γ fk)) (hv : PE X v (TEf Γ fv)) {η : En} (s0 : RSt Γ ρ st H) (n0 : REn Γ ρ H η σ)
    (p : Po Γ ρ H (Rep Γ) ((fk η st).bind fun k s => (fv η s).bind fun v s => match k.hk 8 with
      | true => R k v s
      | false => .stuck) Q)
    (fin : ∀ D ρ' H' st' kk vv es s', Inv X pins σ H' s' → H D = none → Po Γ ρ H (Rep Γ) (R kk vv st') Q → Bare ρ H ρ' H' → RSt Γ ρ' st' H' → ρ'.h = D :: ρ.h → H' D = some (DN Γ.w D es) → RepD Γ ρ' H' [(kk, vv)] es → EP X pins σ Q (.ref D) s')
    (hsh : (evalEachOpt [some k] X.env).zip ((evalEach [v] X.env).map fun v => do let x ← v; standAt pos; pure x) = [(some (eval k X.env), do let x ← eval v X.env; standAt pos; pure x)]) :
    wpAny (model X.prog X.w) X.A (eval (.Dict [some k] [v] pos) X.env) (EP X pins σ Q) X.xe s := by
  rw [arm_eval_Dict, hsh]
  refine wpAny_bind (wpAny_standAt ?_)
  have e := dictDisplay_pairs [(eval k X.env, do let x ← eval v X.env; standAt pos; pure x)] (by simp) (by simp)
  simp only [List.map_cons, List.map_nil] at e
  rw [e]
  refine wpAny_bind (sub_one ?_)
  have hu := c.un
  generalize hDe : s.heap.objs.size = D
  have hD0 : H D = none := I.hok.fresh (Nat.le_of_eq hDe)
  have I1 := laidD c I
  rw [hDe] at I1
  refine thn (hk.run pins _ σ _ _ I1 (te_run p (rst_hide s0 hD0) (n0.kp (kp_hide hD0)))) fun kv s1 ⟨x, H1, J1, r1, ρ1, ak, st1, e1, s1', n1, q1, p1⟩ => ?_
  refine item_at (thn (hv.run pins _ σ _ _ J1 (te_run p1 s1' n1)) fun vv s2 ⟨y, H2, J2, r2, ρ2, av, st2, e2, s2', n2, q2, p2⟩ => ?_)
  have h1 : ρ1.h = D :: ρ.h := e1.hd
  have h2 : ρ2.h = D :: ρ.h := e2.hd.trans h1
  have m2 : D ∈ ρ2.h := by rw [h2]; simp
  have b2 : Bare ρ H ρ2 H2 := ((bare_hide hD0).ext e1).ext e2
  have d2 : H2 D = some (DN Γ.w D []) := (e2.keep D _ (e1.keep D _ upd_same ((rst_hide s0 hD0 (o := DN Γ.w D [])).hid D (by simp [Rho.hide])).2).1 (s1'.hid D (by rw [h1]; simp)).2).1
  split at p2
  · rename_i hk8
    refine wpAny_mono (put_D c J2 r1 r2 (Q := fun H' => ∃ es3, RepD Γ ρ2 H2 [(ak, av)] es3 ∧ H' = upd H2 D (DN Γ.w D es3)) ⟨ρ2, [], [], ak, av, d2, .nil, q1.kp e2.kp, q2, by simp [okKey, hk8], by decide, fun es' r' => ⟨es', r', rfl⟩⟩) (fun _ s3 ⟨H3, J3, es3, rd3, hH3⟩ => ?_) fun _ _ q => q
    subst hH3
    exact wpAny_pure (fin D ρ2 _ st2 ak av es3 _ J3 hD0 p2 (b2.upd hD0) (rst_updH s2' m2) h2 upd_same (rd3.kp (kp_grow m2)))
  · exact p2.elim
theorem ok_d1 (c : Cc Γ X) {k v : Expr} {pos : Pos} {fk fv : EF} (hk : PE X k (TEf Γ fk)) (hv : PE X v (TEf Γ fv))
    (hsh : (evalEachOpt [some k] X.env).zip ((evalEach [v] X.env).map fun v => do let x ← v; standAt pos; pure x) = [(some (eval k X.env), do let x ← eval v X.env; standAt pos; pure x)] := by rfl) : PE X (.Dict [some k] [v] pos) (TEf Γ (eD1 fk fv)) :=
  ⟨fun pins s σ H Q I ⟨ρ, η, st, s0, n0, p⟩ => run_d1 (R := fun k v s => .ok (.dct [(k, v)]) s) c I hk hv s0 n0 p (fun D ρ' H' st' kk vv es ss J hD p' b s' hh hDs rd => out_D J p' hD s0 b s' (fun a ha => by rw [hh]; simp [ha]) (by rw [hh]; simp) hDs rd) hsh⟩
theorem ok_d1N (c : Cc Γ X) {k v : Expr} {pos : Pos} {fk fv : EF} (hk : PE X k (TEf Γ fk)) (hv : PE X v (TEf Γ fv))
    (hsh : (evalEachOpt [some k] X.env).zip ((evalEach [v] X.env).map fun v => do let x ← v; standAt pos; pure x) = [(some (eval k X.env), do let x ← eval v X.env; standAt pos; pure x)] := by rfl) : PE X (.Dict [some k] [v] pos) (TEf Γ (eD1N fk fv)) :=
  ⟨fun pins s σ H Q I ⟨ρ, η, st, s0, n0, p⟩ => run_d1 (R := fun k v s => .ok (.loc s.length) (s ++ [SO.dct false [(k, v)]])) c I hk hv s0 n0 p (fun D ρ' H' st' kk vv es ss J hD p' b s' hh hDs rd => by
    have mD : D ∈ ρ'.h := by rw [hh]; simp
    have sub : ∀ a ∈ ρ.h, a ∈ ρ'.h := fun a ha => by rw [hh]; simp [ha]
    have nD : D ∉ ρ.h := fun z => by
      obtain ⟨⟨u, hu⟩, _⟩ := s0.hid D z
      rw [hD] at hu; cases hu
    exact ⟨.ref D, H', J, rfl, p' _ H' _ (ext_unhide b hD) (rst_unhide s' mD sub nD (.dct hDs (rd.kp (kp_unhide mD sub)))) (loc_unhide s')⟩) hsh⟩
end
end Pl

set_option Elab.async false
set_option linter.all false
set_option maxRecDepth 100000
/-! Pl, part T: dict(pairs), list, tuple, any, all, sum. -/
namespace Pl
open PySem PySem.Spec PyProof.Rows L2

section
variable {Γ : Ct} {X : Cx} {ρ : Rho} {H : Hp} {st : Sto}
/-! ### dict(pairs) -/
def nkK : Key → NestedKey
  | .inl i => .num i
  | .inr x => .text x
def kP : Key → PV
  | .inl i => .int i
  | .inr x => .str x.cps.toList
theorem kP_key (k : Key) : (kP k).keyOf = some (nkK k) := by
  cases k with
  | inl i => rfl
  | inr x => simp only [kP, PV.keyOf, PV.key, tx_of, NestedKey.depth, nkK]; rfl
theorem kP_rep (k : Key) : Rep Γ ρ H (kP k) (kV k) := by
  cases k with
  | inl i => exact .int i
  | inr x => exact rep_str (tx_of x).symm
theorem nkK_inj {a b : Key} : nkK a = nkK b ↔ a = b := by
  cases a <;> cases b <;> simp [nkK]
theorem dK_DN {P : Program} {w : World} {h : Heap} {a : Addr} {kvs : List (Key × V)} (x : ObjOk P w H h a (.dK kvs)) : DIs w a (kvs.map fun kv => (kV kv.1, nkK kv.1, kv.2)) h := by
  obtain ⟨z, hs, vs, rel, o, es, ep, ho, hx, hd, hk, hp, hn⟩ := x
  refine ⟨hs, by rw [List.length_map]; exact z, ?_, o, es, ep, ho, hx, hd, ?_⟩
  · rw [List.map_map]
    have e : (fun x : V × NestedKey × V => x.2.1) ∘ (fun kv : Key × V => (kV kv.1, nkK kv.1, kv.2)) = nkK ∘ fun kv : Key × V => kv.1 := rfl
    rw [e, ← List.map_map, rel.keys]
    exact List.pairwise_map.mpr (List.Pairwise.imp (fun h e => h (nkK_inj.mp e)) hn)
  · clear z
    have hk' : ∀ e ∈ es.toList, ∃ k, (mixKind P w).is k e.key = true ∧ e.hash = (mixKind P w).hash k := fun e he => hk e (Array.mem_toList_iff.mp he)
    clear hk hn hd ho
    generalize es.toList = l at hp hk'
    induction rel generalizing l with
    | nil => cases hp; exact .nil
    | @cons kv kw r1 r2 h t ih =>
      cases hp with
      | @cons e _ l' _ p1 p2 p3 =>
        obtain ⟨k, k1, k2⟩ := hk' e List.mem_cons_self
        have hkk : k = kw.1 := (mixKind P w).inj _ _ _ k1 p1
        refine .cons ⟨?_, ?_, ?_⟩ (ih _ p3 fun e he => hk' e (List.mem_cons_of_mem _ he))
        · show RelV (kV kv.1) e.key
          rw [h.1]; exact keyIs_rel p1
        · show e.hash = (nkK kv.1).hash w
          rw [k2, hkk, h.1]
          show keyH w kw.1 = _
          cases kw.1 <;> rfl
        · show RelV kv.2 e.val
          rw [p2]; exact h.2
/-- the pairs that dict() takes -/
def keyP : PV → Option Key
  | .int i => some (.inl i)
  | .str c => some (.inr (tx c))
  | _ => none
def pairP : PV → Option (Key × PV)
  | .tup [k, v] => match keyP k with
    | some k => some (k, v)
    | none => none
  | _ => none
def pairsP : List PV → Option (List (Key × PV))
  | [] => some []
  | x :: xs => match pairP x, pairsP xs with
    | some p, some ps => some (p :: ps)
    | _, _ => none
def gDict (x : PV) (st : Sto) : R PV := match x with
  | .lst xs => match pairsP xs with
    | some ps => match decide (ps.length ≤ LIM) with
      | true => .ok (.dct (dMerge [] (ps.map fun p => (kP p.1, p.2)))) st
      | false => .stuck
    | none => .stuck
  | _ => .stuck
theorem keyP_rep {x : PV} {k : Key} {v : V} (h : keyP x = some k) (r : Rep Γ ρ H x v) : v = kV k ∧ x = kP k := by
  cases x with
  | int i => cases h; cases r; exact ⟨rfl, rfl⟩
  | str i => cases h; cases r; exact ⟨rfl, by simp [kP, tx_cps]⟩
  | _ => cases h
theorem pairs_rep : ∀ {xs : List PV} {vs : List V} {ps : List (Key × PV)}, pairsP xs = some ps → Reps Γ ρ H xs vs → ∃ (as : List Addr) (kvs : List (Key × V)), vs = as.map V.ref ∧ Paired (fun p kv => SqT Γ.K H p [kV kv.1, kv.2]) as kvs ∧ Paired (fun (p : Key × PV) (q : Key × V) => p.1 = q.1 ∧ Rep Γ ρ H p.2 q.2) ps kvs
  | [], _, _, h, r => by cases h; cases r; exact ⟨[], [], rfl, .nil, .nil⟩
  | x :: xs, _, _, h, r => by
    simp only [pairsP] at h
    split at h
    · rename_i p ps h1 h2
      cases h
      cases r with
      | cons r1 r2 =>
        obtain ⟨as, kvs, rfl, a1, a2⟩ := pairs_rep h2 r2
        unfold pairP at h1
        split at h1
        · rename_i k v
          split at h1
          · rename_i kk hk
            cases h1
            cases r1 with
            | tup t q =>
              obtain ⟨u1, u2, rfl, q1, q2⟩ := reps2 q
              obtain ⟨rfl, _⟩ := keyP_rep hk q1
              exact ⟨_ :: as, (kk, u2) :: kvs, rfl, .cons t.sq a1, .cons ⟨rfl, q2⟩ a2⟩
          · cases h1
        · cases h1
    · cases h
/-- a dict by plain keys, and by values -/
inductive KPV (Γ : Ct) (ρ : Rho) (H : Hp) : List (PV × PV) → List (Key × V) → Prop
  | nil : KPV Γ ρ H [] []
  | cons {k : Key} {x : PV} {v : V} {kvs : List (PV × PV)} {ks : List (Key × V)} : Rep Γ ρ H x v → KPV Γ ρ H kvs ks → KPV Γ ρ H ((kP k, x) :: kvs) ((k, v) :: ks)
theorem KPV.repD : ∀ {kvs : List (PV × PV)} {ks : List (Key × V)}, KPV Γ ρ H kvs ks → RepD Γ ρ H kvs (ks.map fun kv => (kV kv.1, nkK kv.1, kv.2))
  | _, _, .nil => .nil
  | _, _, .cons r t => .cons (kP_rep _) (kP_key _) r (KPV.repD t)
theorem putK_cons {k j : Key} {v w : V} {ks : List (Key × V)} (hn : (((k, v) :: ks).map (·.1)).Nodup) : putK ((k, v) :: ks) j w = if k = j then (k, w) :: ks else (k, v) :: putK ks j w := by
  rw [List.map_cons, List.nodup_cons] at hn
  unfold putK
  by_cases e : k = j
  · have hr : (ks.map fun kv => if kv.1 = j then (kv.1, w) else kv) = ks := by
      refine (List.map_congr_left fun y hy => ?_).trans (List.map_id ks)
      rw [if_neg fun q => hn.1 (List.mem_map.mpr ⟨y, hy, q.trans e.symm⟩)]
      rfl
    rw [if_pos e, if_pos (by simp [e]), List.map_cons, hr, if_pos e]
  · rw [if_neg e]
    by_cases hs : (ks.any fun kv => decide (kv.1 = j)) = true
    · rw [if_pos (by simp only [List.any_cons, hs, Bool.or_true]), if_pos hs, List.map_cons, if_neg e]
    · rw [if_neg (by simp only [List.any_cons, decide_eq_false e, Bool.false_or]; exact hs), if_neg hs, List.cons_append]
theorem putK_nodup {ks : List (Key × V)} (hn : (ks.map (·.1)).Nodup) {j : Key} {w : V} : ((putK ks j w).map (·.1)).Nodup := by
  unfold putK
  split
  · rw [List.map_map]
    have e : (fun x : Key × V => x.1) ∘ (fun kv : Key × V => if kv.1 = j then (kv.1, w) else kv) = fun x => x.1 := by
      funext x
      simp only [Function.comp]
      split <;> rfl
    rw [e]
    exact hn
  · rename_i hs
    rw [List.map_append, List.nodup_append]
    refine ⟨hn, by simp, fun a ha b hb e => hs ?_⟩
    simp only [List.map_cons, List.map_nil, List.mem_singleton] at hb
    subst hb
    subst e
    obtain ⟨y, hy, rfl⟩ := List.mem_map.mp ha
    exact List.any_eq_true.mpr ⟨y, hy, by simp⟩
theorem KPV.put {x : PV} {w : V} {j : Key} (rw' : Rep Γ ρ H x w) : ∀ {kvs : List (PV × PV)} {ks : List (Key × V)}, KPV Γ ρ H kvs ks → (ks.map (·.1)).Nodup → KPV Γ ρ H (dPut kvs (kP j) x) (putK ks j w)
  | _, _, .nil, _ => .cons rw' .nil
  | _, _, .cons (k := k) r t, hn => by
    rw [dPut_cons, putK_cons hn, eqv_dec (kP_key k) (kP_key j)]
    by_cases e : k = j
    · rw [if_pos (decide_eq_true (by rw [e])), if_pos e]
      exact .cons rw' t
    · rw [if_neg (by rw [decide_eq_false fun z => e (nkK_inj.mp z)]; exact Bool.false_ne_true), if_neg e]
      rw [List.map_cons, List.nodup_cons] at hn
      exact .cons r (KPV.put rw' t hn.2)
theorem KPV.mrg : ∀ {ps : List (Key × PV)} {qs : List (Key × V)} {kvs : List (PV × PV)} {ks : List (Key × V)}, Paired (fun (p : Key × PV) (q : Key × V) => p.1 = q.1 ∧ Rep Γ ρ H p.2 q.2) ps qs → KPV Γ ρ H kvs ks → (ks.map (·.1)).Nodup → KPV Γ ρ H (dMerge kvs (ps.map fun p => (kP p.1, p.2))) (mergeK ks qs)
  | _, _, _, _, .nil, t, _ => t
  | _, _, _, _, .cons (a := p) (b := q) h hr, t, hn => by
    show KPV Γ ρ H (dMerge (dPut _ (kP p.1) p.2) _) (mergeK (putK _ q.1 q.2) _)
    rw [← h.1]
    exact KPV.mrg hr (t.put h.2 hn) (putK_nodup hn)
theorem cl_dict (c : Cc Γ X) : CallR X (.type "dict") (RC Γ (o1 gDict)) := by
  intro pins s σ H xs us Q I r hh
  obtain ⟨ρ, st, x, v, rfl, h, a1, p⟩ := rc1 hh
  unfold gDict at p
  split at p
  · rename_i ys
    split at p
    · rename_i ps hps
      split at p
      · rename_i hl
        cases a1 with
        | lst t q =>
          obtain ⟨as, kvs, rfl, b1, b2⟩ := pairs_rep hps q
          rw [← c.K] at b1
          have t' := t.sq
          rw [← c.K] at t'
          refine wpAny_mono (call_dictP c.calm pins s σ H _ us (fun v H' => ∃ p, v = .ref p ∧ H p = none ∧ H' = upd H p (.dK (mergeK [] kvs))) I r ⟨_, as, kvs, rfl, t', b1, fun p hp => ⟨p, rfl, hp, rfl⟩⟩) (fun u s' ⟨v, H', I', ru, p', e1, e2, e3⟩ => ?_) fun _ _ q => q
          subst e1
          subst e3
          have ok := I'.hok p' _ upd_same
          have d := dK_DN ok
          have I2 := I'.write (x := p') (e := p') (o := DN Γ.w p' _) (t' := s'.toks) (h' := s'.heap) (by rw [upd_same]; trivial) (.inl rfl) (fun b u _ q => q) d.ob (by rw [upd_upd, c.w] at *; exact dn_ok d)
          rw [upd_upd] at I2
          have kp := KPV.mrg b2 (.nil (Γ := Γ) (ρ := ρ) (H := H)) List.nodup_nil
          cases ru
          refine fz_D I2 upd_same fun o => ?_
          rw [upd_upd]
          exact p ρ _ _ (ext_new h e2) (rst_new h e2) (.dct (.inl upd_same) (h.notin e2) (kp.repD.kp (ext_new h e2).kp))
      · exact p.elim
    · exact p.elim
  · exact p.elim
end
end Pl

set_option Elab.async false
set_option linter.all false
set_option maxRecDepth 100000
/-! Pl, part U: list, tuple, any, all, sum, max, min; methods. -/
namespace Pl
open PySem PySem.Spec PyProof.Rows L2

section
variable {Γ : Ct} {X : Cx} {ρ : Rho} {H : Hp} {st : Sto}
/-- list(x): for good, in the store -/
def gList (x : PV) (st : Sto) : R PV := match itemsOf st x with
  | some xs => .ok (.lst xs) st
  | none => .stuck
def gListN (x : PV) (st : Sto) : R PV := match itemsOf st x with
  | some xs => .ok (.loc st.length) (st ++ [.lst xs])
  | none => .stuck
theorem list_run (c : Cc Γ X) {pins : List (Addr × Obj)} {s : Shared} {σ : L2.St} {x : PV} {v : V} {us : List Value} {xs : List PV} {Q : VK} (I : Inv X pins σ H s) (h : RSt Γ ρ st H) (r : Vals [v] us) (hi : itemsOf st x = some xs) (a1 : Rep Γ ρ H x v)
    (q : ∀ p vs, H p = none → Reps Γ ρ H xs vs → Q (.ref p) (upd H p (.lst vs))) : wpAny (model X.prog X.w) X.A (call (.type "list") us) (EP X pins σ Q) X.xe s := by
  unfold itemsOf at hi
  cases hq : seqOf st x with
  | some ys =>
    rw [hq] at hi
    cases hi
    obtain ⟨p0, vs, rfl, hv, hr⟩ := seqOf_okX c h hq a1
    exact call_list_of pins s σ H _ us Q I r ⟨p0, vs, rfl, hv, fun l hl => q l vs hl hr⟩
  | none =>
    rw [hq] at hi
    dsimp only at hi
    cases hd : dctOf st x with
    | none => rw [hd] at hi; cases hi
    | some kvs =>
      rw [hd] at hi
      cases hi
      obtain ⟨ad, es, rfl, hr, rd⟩ := dctOf_ok h hd a1
      obtain ⟨u, rfl, ru⟩ := r.one
      cases ru
      obtain ⟨o, ents, ep, k1, k2, k3, k4, k5, k6, k7⟩ := keys_of c I hr rd
      refine PySem.W.kdl_call (kdl_raw k4 k2 k3) (I.ok.hd c.calm) k1 k5 fun h' tk acc c' kp e hacc => ?_
      have ea := items_vals hacc
      have hz : (es.map (·.1)).length ≤ sizeLine := by rw [k6.length, List.length_map, Array.length_toList]; exact k5
      refine ⟨.ref s.heap.objs.size, _, I.laid (t' := tk) (o := .lst (es.map (·.1))) kp (Nat.le_refl _) ⟨hz, acc.toList, c', by rw [ea]; exact k6, by rw [Array.toArray_toList]; exact e⟩, rfl, q _ _ (I.hok.fresh (Nat.le_refl _)) k7⟩
theorem cl_list (c : Cc Γ X) : CallR X (.type "list") (RC Γ (o1 gList)) := by
  intro pins s σ H xs us Q I r hh
  obtain ⟨ρ, st, x, v, rfl, h, a1, p⟩ := rc1 hh
  unfold gList at p
  cases hi : itemsOf st x with
  | none => rw [hi] at p; exact p.elim
  | some ys =>
    rw [hi] at p
    exact list_run c I h r hi a1 fun q vs hq hr => p ρ _ _ (ext_new h hq) (rst_new h hq) (.lst (LstAt.new h hq) (hr.kp (ext_new h hq).kp))
theorem cl_listN (c : Cc Γ X) : CallR X (.type "list") (RC Γ (o1 gListN)) := by
  intro pins s σ H xs us Q I r hh
  obtain ⟨ρ, st, x, v, rfl, h, a1, p⟩ := rc1 hh
  unfold gListN at p
  cases hi : itemsOf st x with
  | none => rw [hi] at p; exact p.elim
  | some ys =>
    rw [hi] at p
    exact list_run c I h r hi a1 fun q vs hq hr => p _ _ _ (ext_add h hq) (rst_add h hq (.lst upd_same (hr.kp (ext_add h hq).kp))) (loc_add h)
def gTuple (x : PV) (st : Sto) : R PV := match seqOf st x with
  | some xs => .ok (.tup xs) st
  | none => .stuck
theorem cl_tuple (c : Cc Γ X) : CallR X (.type "tuple") (RC Γ (o1 gTuple)) := by
  intro pins s σ H xs us Q I r hh
  obtain ⟨ρ, st, x, v, rfl, h, a1, p⟩ := rc1 hh
  unfold gTuple at p
  cases hi : seqOf st x with
  | none => rw [hi] at p; exact p.elim
  | some ys =>
    rw [hi] at p
    by_cases ht : ∃ zs, x = .tup zs
    · obtain ⟨zs, rfl⟩ := ht
      cases hi
      cases a1 with
      | tup t q =>
        have t' := t.sq
        rw [← c.K] at t'
        exact call_tuple_of pins s σ H _ us Q I r ⟨_, _, rfl, .inr ⟨t', po_ok p h (.tup t q)⟩⟩
    · obtain ⟨p0, vs, rfl, hv, hr⟩ := seqOf_lst hi (fun ys z => ht ⟨ys, z⟩) h a1
      rw [← c.K] at hv
      exact call_tuple_of pins s σ H _ us Q I r ⟨p0, vs, rfl, .inl ⟨hv, fun q hq => p ρ _ _ (ext_new h hq) (rst_new h hq) (.tup (TupAt.new h hq) (hr.kp (ext_new h hq).kp))⟩⟩
/-- of a list: any, all, sum -/
def lstOf (st : Sto) (x : PV) : Option (List PV) := match x with
  | .tup _ => none
  | x => seqOf st x
theorem lstOf_ok (c : Cc Γ X) (h : RSt Γ ρ st H) {x : PV} {v : V} {xs : List PV} (hi : lstOf st x = some xs) (r : Rep Γ ρ H x v) : ∃ p vs, v = .ref p ∧ SqL X.K H p vs ∧ Reps Γ ρ H xs vs := by
  rw [c.K]
  cases x with
  | tup ys => cases hi
  | lst ys => exact seqOf_lst (a := .lst ys) (st := st) hi (fun _ z => by cases z) h r
  | loc n => exact seqOf_lst (a := .loc n) (st := st) hi (fun _ z => by cases z) h r
  | _ => cases hi
def boolsP : List PV → Option (List Bool)
  | [] => some []
  | x :: xs => match x with
    | .bl b => match boolsP xs with
      | some bs => some (b :: bs)
      | none => none
    | _ => none
theorem boolsP_rep : ∀ {xs : List PV} {vs : List V} {bs : List Bool}, boolsP xs = some bs → Reps Γ ρ H xs vs → vs = bs.map V.bl
  | [], _, _, h, r => by cases h; cases r; rfl
  | x :: xs, _, _, h, r => by
    cases r with
    | cons r1 r2 =>
      cases x with
      | bl b =>
        simp only [boolsP] at h
        split at h
        · rename_i bs hb
          cases h
          cases r1
          rw [boolsP_rep hb r2]; rfl
        · cases h
      | _ => cases h
def intsP : List PV → Option (List Int)
  | [] => some []
  | x :: xs => match x with
    | .int b => match intsP xs with
      | some bs => some (b :: bs)
      | none => none
    | _ => none
theorem intsP_rep : ∀ {xs : List PV} {vs : List V} {bs : List Int}, intsP xs = some bs → Reps Γ ρ H xs vs → vs = bs.map V.int
  | [], _, _, h, r => by cases h; cases r; rfl
  | x :: xs, _, _, h, r => by
    cases r with
    | cons r1 r2 =>
      cases x with
      | int b =>
        simp only [intsP] at h
        split at h
        · rename_i bs hb
          cases h
          cases r1
          rw [intsP_rep hb r2]; rfl
        · cases h
      | _ => cases h
def strsP : List PV → Option (List (List Nat))
  | [] => some []
  | x :: xs => match x with
    | .str b => match strsP xs with
      | some bs => some (b :: bs)
      | none => none
    | _ => none
theorem strsP_rep : ∀ {xs : List PV} {vs : List V} {bs : List (List Nat)}, strsP xs = some bs → Reps Γ ρ H xs vs → vs = (bs.map tx).map V.str
  | [], _, _, h, r => by cases h; cases r; rfl
  | x :: xs, _, _, h, r => by
    cases r with
    | cons r1 r2 =>
      cases x with
      | str b =>
        simp only [strsP] at h
        split at h
        · rename_i bs hb
          cases h
          cases r1
          rw [strsP_rep hb r2]; rfl
        · cases h
      | _ => cases h
def gBools (f : List Bool → Bool) (x : PV) (st : Sto) : R PV := match lstOf st x with
  | some xs => match boolsP xs with
    | some bs => .ok (.bl (f bs)) st
    | none => .stuck
  | none => .stuck
theorem gBools_ok (c : Cc Γ X) {f : List Bool → Bool} {n : String} (hc : CallR X (.builtin n) fun vs H Q => ∃ (a : Addr) (bs : List Bool), vs = [V.ref a] ∧ SqL X.K H a (bs.map V.bl) ∧ Q (.bl (f bs)) H) : CallR X (.builtin n) (RC Γ (o1 (gBools f))) := by
  intro pins s σ H xs us Q I r hh
  obtain ⟨ρ, st, x, v, rfl, h, a1, p⟩ := rc1 hh
  unfold gBools at p
  split at p
  · rename_i ys hi
    split at p
    · rename_i bs hb
      obtain ⟨p0, vs, rfl, hv, hr⟩ := lstOf_ok c h hi a1
      have e := boolsP_rep hb hr
      subst e
      exact hc pins s σ H _ us Q I r ⟨p0, bs, rfl, hv, po_ok p h (.bl _)⟩
    · exact p.elim
  · exact p.elim
theorem cl_any (c : Cc Γ X) : CallR X (.builtin "any") (RC Γ (o1 (gBools fun bs => bs.any id))) := gBools_ok c (cr_any c.calm)
theorem cl_all (c : Cc Γ X) : CallR X (.builtin "all") (RC Γ (o1 (gBools fun bs => bs.all id))) := gBools_ok c (cr_all c.calm)
def gSum (x : PV) (st : Sto) : R PV := match lstOf st x with
  | some xs => match intsP xs with
    | some bs => .ok (.int bs.sum) st
    | none => .stuck
  | none => .stuck
theorem cl_sum (c : Cc Γ X) : CallR X (.builtin "sum") (RC Γ (o1 gSum)) := by
  intro pins s σ H xs us Q I r hh
  obtain ⟨ρ, st, x, v, rfl, h, a1, p⟩ := rc1 hh
  unfold gSum at p
  split at p
  · rename_i ys hi
    split at p
    · rename_i bs hb
      obtain ⟨p0, vs, rfl, hv, hr⟩ := lstOf_ok c h hi a1
      have e := intsP_rep hb hr
      subst e
      exact cr_sum c.calm pins s σ H _ us Q I r ⟨p0, bs, rfl, hv, po_ok p h (.int _)⟩
    · exact p.elim
  · exact p.elim
def maxI : List Int → Int
  | [] => 0
  | [x] => x
  | x :: y :: xs => let m := maxI (y :: xs); if x ≤ m then m else x
def minI : List Int → Int
  | [] => 0
  | [x] => x
  | x :: y :: xs => let m := minI (y :: xs); if m ≤ x then m else x
theorem maxI_mem : ∀ l : List Int, 0 < l.length → maxI l ∈ l ∧ ∀ y ∈ l, y ≤ maxI l
  | [], h => by cases h
  | [x], _ => ⟨by simp [maxI], fun y hy => by simp only [List.mem_singleton] at hy; subst hy; simp [maxI]⟩
  | x :: y :: xs, _ => by
    obtain ⟨h1, h2⟩ := maxI_mem (y :: xs) (by simp)
    simp only [maxI]
    split
    · refine ⟨List.mem_cons_of_mem _ h1, fun z hz => ?_⟩
      rcases List.mem_cons.mp hz with e | hz
      · subst e; assumption
      · exact h2 z hz
    · refine ⟨List.mem_cons_self, fun z hz => ?_⟩
      rcases List.mem_cons.mp hz with e | hz
      · subst e; exact Int.le_refl _
      · have := h2 z hz; omega
theorem minI_mem : ∀ l : List Int, 0 < l.length → minI l ∈ l ∧ ∀ y ∈ l, minI l ≤ y
  | [], h => by cases h
  | [x], _ => ⟨by simp [minI], fun y hy => by simp only [List.mem_singleton] at hy; subst hy; simp [minI]⟩
  | x :: y :: xs, _ => by
    obtain ⟨h1, h2⟩ := minI_mem (y :: xs) (by simp)
    simp only [minI]
    split
    · refine ⟨List.mem_cons_of_mem _ h1, fun z hz => ?_⟩
      rcases List.mem_cons.mp hz with e | hz
      · subst e; assumption
      · exact h2 z hz
    · refine ⟨List.mem_cons_self, fun z hz => ?_⟩
      rcases List.mem_cons.mp hz with e | hz
      · subst e; exact Int.le_refl _
      · have := h2 z hz; omega
def gExt (f : List Int → Int) (x : PV) (st : Sto) : R PV := match lstOf st x with
  | some xs => match intsP xs with
    | some bs => match bs with
      | [] => .stuck
      | b :: bs => .ok (.int (f (b :: bs))) st
    | none => .stuck
  | none => .stuck
theorem cl_max (c : Cc Γ X) : CallR X (.builtin "max") (RC Γ (o1 (gExt maxI))) := by
  intro pins s σ H xs us Q I r hh
  obtain ⟨ρ, st, x, v, rfl, h, a1, p⟩ := rc1 hh
  unfold gExt at p
  split at p
  · rename_i ys hi
    split at p
    · rename_i bs hb
      split at p
      · exact p.elim
      · rename_i b bs
        obtain ⟨p0, vs, rfl, hv, hr⟩ := lstOf_ok c h hi a1
        have e := intsP_rep hb hr
        subst e
        obtain ⟨m1, m2⟩ := maxI_mem (b :: bs) (by simp)
        refine cr_max c.calm pins s σ H _ us Q I r ⟨p0, b :: bs, rfl, hv, by simp, fun m hm hy => ?_⟩
        have : m = maxI (b :: bs) := Int.le_antisymm (m2 m hm) (hy _ m1)
        rw [this]
        exact po_ok p h (.int _)
    · exact p.elim
  · exact p.elim
theorem cl_min (c : Cc Γ X) : CallR X (.builtin "min") (RC Γ (o1 (gExt minI))) := by
  intro pins s σ H xs us Q I r hh
  obtain ⟨ρ, st, x, v, rfl, h, a1, p⟩ := rc1 hh
  unfold gExt at p
  split at p
  · rename_i ys hi
    split at p
    · rename_i bs hb
      split at p
      · exact p.elim
      · rename_i b bs
        obtain ⟨p0, vs, rfl, hv, hr⟩ := lstOf_ok c h hi a1
        have e := intsP_rep hb hr
        subst e
        obtain ⟨m1, m2⟩ := minI_mem (b :: bs) (by simp)
        refine cr_min c.calm pins s σ H _ us Q I r ⟨p0, b :: bs, rfl, hv, by simp, fun m hm hy => ?_⟩
        have : m = minI (b :: bs) := Int.le_antisymm (hy _ m1) (m2 m hm)
        rw [this]
        exact po_ok p h (.int _)
    · exact p.elim
  · exact p.elim
/-! ### methods of the built-in types -/
/-- called with a value of the type: text 2, list 4, dict 5 -/
theorem ty_rep (c : Cc Γ X) {pins : List (Addr × Obj)} {s : Shared} {σ : L2.St} {x : PV} {v : V} {u : Value} {k : Nat} (I : Inv X pins σ H s) (rv : RelV v u) (h : RSt Γ ρ st H) (r : Rep Γ ρ H x v) (hk : x.kd st = some k) (h3 : k ≠ 3) (h6 : k = 2 ∨ k = 4 ∨ k = 5) :
    s.TypeIs u (tyN k) ∧ ∀ a, u = .ref a → ∃ ob, s.heap.get? a = some ob ∧ ob.dict = none := by
  have dk : ∀ {a : Addr} {es : List (V × NestedKey × V)}, DIs Γ.w a es s.heap → s.TypeIs (.ref a) "dict" ∧ ∀ b, Value.ref a = .ref b → ∃ ob, s.heap.get? b = some ob ∧ ob.dict = none := fun {a es} q => by
    obtain ⟨_, _, _, o, ents, ep, e, ex, _⟩ := q
    exact ⟨⟨o, e, ex.1⟩, fun b z => by cases z; exact ⟨o, e, ex.2.1⟩⟩
  have lk : ∀ {a : Addr} {vs : List V}, SqL X.K H a vs → s.TypeIs (.ref a) "list" ∧ ∀ b, Value.ref a = .ref b → ∃ ob, s.heap.get? b = some ob ∧ ob.dict = none := fun {a vs} q => by
    obtain ⟨its, _, ⟨o, n, e, hc, hd, _⟩, _⟩ := I.list q
    exact ⟨⟨o, e, hc⟩, fun b z => by cases z; exact ⟨o, e, hd⟩⟩
  cases r with
  | non => cases hk; omega
  | bl b => cases hk; omega
  | int i => cases hk; omega
  | str i => cases hk; obtain ⟨t, rfl⟩ := rv; exact ⟨typeIs_str _ _ _, fun _ z => nomatch z⟩
  | tup t q => cases hk; omega
  | lst t q => cases hk; cases rv; have t' := t.sq; rw [← c.K] at t'; exact lk t'
  | dct t n q => cases hk; cases rv; exact dk (t.ok I.hok).2.1
  | loc hn =>
    rename_i n a
    cases rv
    have hl : n < st.length := by rw [← h.len]; exact (List.getElem?_eq_some_iff.mp hn).1
    have q := h.at' n _ a (List.getElem?_eq_getElem hl) hn
    have e : st[n]? = some st[n] := List.getElem?_eq_getElem hl
    unfold PV.kd at hk
    dsimp only at hk
    rw [e] at hk
    generalize st[n] = o at q hk
    cases q with
    | lst e r => cases hk; exact lk (.inl (.inl e))
    | dct e r => cases hk; exact dk (I.hok a _ e).1
    | frz e r => cases hk; exact dk (Rd.ok (.inr ⟨_, e⟩) I.hok).1
    | ins e r => cases hk
  | ty n => cases hk
def RM (Γ : Ct) (o : PV → List PV → Sto → R PV) : V → List V → Hp → VK → Prop := fun x vs H Q => ∃ ρ st a as, RSt Γ ρ st H ∧ Rep Γ ρ H a x ∧ Reps Γ ρ H as vs ∧ Po Γ ρ H (Rep Γ) (o a as st) Q
/-- x.m(..): k the kind that is asked -/
def eM (k : Nat) (o : PV → List PV → Sto → R PV) (f : EF) (g : AF) : EF := fun η st => (f η st).bind fun v s => match v.kd s with
  | some j => match Nat.beq j k with
    | true => (g η s).bind fun as s => o v as s
    | false => .stuck
  | none => .stuck
theorem ok_m (c : Cc Γ X) {k : Nat} {id : String} {name : Str} {o e : Expr} {es : List Expr} {apos cpos : Pos} {op : PV → List PV → Sto → R PV} {f : EF} {g : AF} (h6 : k = 2 ∨ k = 4 ∨ k = 5) (pa : PlainAttrs (tyN k)) (slot : Slot (tyN k) name id) (hty : typeOf (.builtin id) = pure (.type "method_descriptor")) (hm : MtR X id (RM Γ op)) (ho : PE X o (TEf Γ f)) (ha : PA X (e :: es) (TAf Γ g))
    (hbase : attributeBase o name X.env (eval o X.env) = eval o X.env := by rfl)
    (hfew : ((backTo cpos (starEach (e :: es) X.env)).all (fun x => !x.1) && (backToKw cpos (keywordEach [] X.env)).all (fun x => x.1.isSome)
      && decide ((e :: es).length + ([] : List Keyword).length + (if ([] : List Keyword).isEmpty then 0 else 1) < 30)) = true := by rfl)
    (hline : (apos.endLine == cpos.line) = true := by rfl) (hs : starEach (e :: es) X.env = (false, eval e X.env) :: starEach es X.env := by rfl) (hplain : (backTo cpos (starEach es X.env)).any (·.1) = false := by rfl) :
    PE X (.Call (.Attribute o name apos) (e :: es) [] cpos) (TEf Γ (eM k op f g)) := by
  refine ⟨fun pins s σ H Q I ⟨ρ, η, st, s0, n0, p⟩ => ?_⟩
  refine wpAny_Call_method_late hbase hfew hline rfl (thn (ho.run pins s σ H _ I (te_bind p s0 n0)) fun v s1 ⟨x, H1, I1, r1, ρ1, a, st1, e1, s1', n1, q1, p1⟩ => ?_)
  cases hk : a.kd st1 with
  | none => rw [hk] at p1; exact p1.elim
  | some j =>
    rw [hk] at p1
    dsimp only at p1
    split at p1
    · rename_i hb
      have hjk : j = k := Nat.eq_of_beq_eq_true hb
      subst hjk
      obtain ⟨h1, h2⟩ := ty_rep c I1 r1 s1' q1 hk (by omega) h6
      refine ⟨tyN j, id, pa, slot, hty, h1, h2, ?_⟩
      have hA := ha.run cpos pins s1 σ H1 _ I1 (ta_bind p1 s1' n1)
      rw [hs] at hA ⊢
      refine Calls.callWith_builtin (by show (false || (backTo cpos (starEach es X.env)).any (·.1)) = false; rw [hplain]; rfl) (Calls.evalArgs_plain ?_)
      exact thn hA fun us s2 ⟨vs, H2, I2, r2, ρ2, as, st2, e2, s2', n2, q2, p2⟩ => hm pins s2 σ H2 x vs v us Q I2 r1 r2 ⟨ρ2, st2, a, as, s2', q1.kp e2.kp, q2, p2⟩
    · exact p1.elim
theorem ok_m0 (c : Cc Γ X) {k : Nat} {id : String} {name : Str} {o : Expr} {apos cpos : Pos} {op : PV → List PV → Sto → R PV} {f : EF} (h6 : k = 2 ∨ k = 4 ∨ k = 5) (pa : PlainAttrs (tyN k)) (slot : Slot (tyN k) name id) (hty : typeOf (.builtin id) = pure (.type "method_descriptor")) (hm : MtR X id (RM Γ op)) (ho : PE X o (TEf Γ f))
    (hbase : attributeBase o name X.env (eval o X.env) = eval o X.env := by rfl) (hline : (apos.endLine == cpos.line) = true := by rfl) : PE X (.Call (.Attribute o name apos) [] [] cpos) (TEf Γ (eM k op f aNil)) := by
  refine ⟨fun pins s σ H Q I ⟨ρ, η, st, s0, n0, p⟩ => ?_⟩
  refine wpAny_Call_method0_late hbase hline (thn (ho.run pins s σ H _ I (te_bind p s0 n0)) fun v s1 ⟨x, H1, I1, r1, ρ1, a, st1, e1, s1', n1, q1, p1⟩ => ?_)
  cases hk : a.kd st1 with
  | none => rw [hk] at p1; exact p1.elim
  | some j =>
    rw [hk] at p1
    dsimp only at p1
    split at p1
    · rename_i hb
      have hjk : j = k := Nat.eq_of_beq_eq_true hb
      subst hjk
      obtain ⟨h1, h2⟩ := ty_rep c I1 r1 s1' q1 hk (by omega) h6
      exact ⟨tyN j, id, pa, slot, hty, h1, h2, Calls.callWith_builtin rfl (PySem.evalArgs_none (hm pins s1 σ H1 x [] v [] Q I1 r1 .nil ⟨ρ1, st1, a, [], s1', q1, .nil, p1⟩))⟩
    · exact p1.elim
def m1 (f : PV → PV → Sto → R PV) : PV → List PV → Sto → R PV
  | x, [y], st => f x y st
  | _, _, _ => .stuck
def m2 (f : PV → PV → PV → Sto → R PV) : PV → List PV → Sto → R PV
  | x, [y, z], st => f x y z st
  | _, _, _ => .stuck
theorem rm1 {f : PV → PV → Sto → R PV} {x : V} {vs : List V} {Q : VK} (h : RM Γ (m1 f) x vs H Q) : ∃ ρ st a b v, vs = [v] ∧ RSt Γ ρ st H ∧ Rep Γ ρ H a x ∧ Rep Γ ρ H b v ∧ Po Γ ρ H (Rep Γ) (f a b st) Q := by
  obtain ⟨ρ, st, a, as, h, ha, hs, p⟩ := h
  match as, hs, p with
  | [b], hs, p =>
    obtain ⟨v, rfl, r⟩ := reps1 hs
    exact ⟨ρ, st, a, b, v, rfl, h, ha, r, p⟩
  | [], _, p => exact p.elim
  | _ :: _ :: _, _, p => exact p.elim
theorem rm2 {f : PV → PV → PV → Sto → R PV} {x : V} {vs : List V} {Q : VK} (h : RM Γ (m2 f) x vs H Q) : ∃ ρ st a b d v u, vs = [v, u] ∧ RSt Γ ρ st H ∧ Rep Γ ρ H a x ∧ Rep Γ ρ H b v ∧ Rep Γ ρ H d u ∧ Po Γ ρ H (Rep Γ) (f a b d st) Q := by
  obtain ⟨ρ, st, a, as, h, ha, hs, p⟩ := h
  match as, hs, p with
  | [b, d], hs, p =>
    obtain ⟨v, u, rfl, r1, r2⟩ := reps2 hs
    exact ⟨ρ, st, a, b, d, v, u, rfl, h, ha, r1, r2, p⟩
  | [], _, p => exact p.elim
  | [_], _, p => exact p.elim
  | _ :: _ :: _ :: _, _, p => exact p.elim
/-- d.get(k, x) -/
def gGet2 (d k x : PV) (st : Sto) : R PV := match dctOf st d with
  | some kvs => match okKey kvs k with
    | true => match dVal kvs k with
      | some v => .ok v st
      | none => .ok x st
    | false => .stuck
  | none => .stuck
theorem mt_get2 (c : Cc Γ X) : MtR X "dict.get" (RM Γ (m2 gGet2)) := by
  intro pins s σ H x vs v us Q I rx rv hh
  obtain ⟨ρ, st, a, b, d, w1, w2, rfl, h, ra, rb, rd, p⟩ := rm2 hh
  obtain ⟨u1, u2, rfl, q1, q2⟩ := rv.two
  unfold gGet2 at p
  cases hd : dctOf st a with
  | none => rw [hd] at p; exact p.elim
  | some kvs =>
    rw [hd] at p
    dsimp only at p
    split at p
    · rename_i hk
      obtain ⟨ad, es, rfl, hr, rdd⟩ := dctOf_ok h hd ra
      cases rx
      have hu := c.un
      obtain ⟨xs, m, t, z, hsm⟩ := dn_open c I hr rdd
      obtain ⟨nk, k1, k2, k3, k4⟩ := t.look hk
      refine dd_get2 hsm (by omega) ⟨rep_nested c I b nk w1 u1 k2 rb q1, k3⟩ m k4 fun nn => ?_
      rcases t.val k1 with ⟨v1, v2⟩ | ⟨y', u', w', v1, v2, v3, v4⟩
      · rw [v1] at p
        rw [v2]
        exact ⟨w2, H, I.tok _, q2, po_ok p h rd⟩
      · rw [v1] at p
        rw [v2]
        exact ⟨u', H, I.tok _, v4, po_ok p h v3⟩
    · exact p.elim
def gGet1 (d k : PV) (st : Sto) : R PV := match dctOf st d with
  | some kvs => match okKey kvs k with
    | true => match dVal kvs k with
      | some v => .ok v st
      | none => .ok .non st
    | false => .stuck
  | none => .stuck
theorem mt_get1 (c : Cc Γ X) : MtR X "dict.get" (RM Γ (m1 gGet1)) := by
  intro pins s σ H x vs v us Q I rx rv hh
  obtain ⟨ρ, st, a, b, w1, rfl, h, ra, rb, p⟩ := rm1 hh
  obtain ⟨u1, rfl, q1⟩ := rv.one
  unfold gGet1 at p
  cases hd : dctOf st a with
  | none => rw [hd] at p; exact p.elim
  | some kvs =>
    rw [hd] at p
    dsimp only at p
    split at p
    · rename_i hk
      obtain ⟨ad, es, rfl, hr, rdd⟩ := dctOf_ok h hd ra
      cases rx
      have hu := c.un
      obtain ⟨xs, m, t, z, hsm⟩ := dn_open c I hr rdd
      obtain ⟨nk, k1, k2, k3, k4⟩ := t.look hk
      refine dd_get1 hsm (by omega) ⟨rep_nested c I b nk w1 u1 k2 rb q1, k3⟩ m k4 fun nn => ?_
      rcases t.val k1 with ⟨v1, v2⟩ | ⟨y', u', w', v1, v2, v3, v4⟩
      · rw [v1] at p
        rw [v2]
        exact ⟨.non, H, I.tok _, rfl, po_ok p h .non⟩
      · rw [v1] at p
        rw [v2]
        exact ⟨u', H, I.tok _, v4, po_ok p h v3⟩
    · exact p.elim
/-- xs.append(x) -/
def gApp (l x : PV) (st : Sto) : R PV := match l with
  | .loc n => match st[n]? with
    | some (.lst xs) => match decide (xs.length < LIM) with
      | true => .ok .non (st.set n (.lst (xs ++ [x])))
      | false => .stuck
    | _ => .stuck
  | _ => .stuck
theorem mt_app : MtR X "list.append" (RM Γ (m1 gApp)) := by
  intro pins s σ H x vs v us Q I rx rv hh
  obtain ⟨ρ, st, a, b, w1, rfl, h, ra, rb, p⟩ := rm1 hh
  unfold gApp at p
  split at p
  · rename_i n
    split at p
    · rename_i xs hn
      split at p
      · rename_i hl
        rw [decide_eq_true_eq] at hl
        obtain ⟨ad, vs, rfl, hH, rr, hl2⟩ := h.isl hn ra
        refine mt_append pins s σ H _ _ v us Q I rx rv ⟨ad, vs, w1, rfl, rfl, hH, by rw [← rr.length]; exact lim_lt (by omega), ?_⟩
        exact p ρ _ _ (ext_write hl2) (rst_write h hl2 (.lst upd_same ((rr.append (.cons rb .nil)).kp (ext_write hl2).kp))) .non
      · exact p.elim
    · exact p.elim
  · exact p.elim
/-- s.join(texts) -/
def joinP (a : List Nat) : List (List Nat) → List Nat
  | [] => []
  | [x] => x
  | x :: y :: xs => x ++ a ++ joinP a (y :: xs)
def sumLen : List (List Nat) → Nat
  | [] => 0
  | x :: xs => x.length + sumLen xs
def gJoin (s l : PV) (st : Sto) : R PV := match s with
  | .str a => match seqOf st l with
    | some xs => match strsP xs with
      | some ys => match decide (sumLen ys + ys.length * a.length ≤ LIM) with
        | true => .ok (.str (joinP a ys)) st
        | false => .stuck
      | none => .stuck
    | none => .stuck
  | _ => .stuck
theorem join_tx0 (a : List Nat) : ∀ ys : List (List Nat), Str.join (tx a) (ys.map tx) = tx (joinP a ys)
  | [] => rfl
  | [x] => rfl
  | x :: y :: ys => by
    show tx x ++ tx a ++ Str.join (tx a) ((y :: ys).map tx) = _
    rw [join_tx0 a (y :: ys), tx_app, tx_app]
    rfl
theorem join_tx (a : List Nat) (ys : List (List Nat)) : Txt.join (tx a) (ys.map tx) = tx (joinP a ys) := by rw [← join_tx0]; exact TL.join_eq _ _
theorem sum_tx : ∀ ys : List (List Nat), ((ys.map tx).map (·.length)).sum = sumLen ys
  | [] => rfl
  | y :: ys => by
    rw [List.map_cons, List.map_cons, List.sum_cons, sum_tx ys, tx_len]; rfl
theorem mt_joinP (c : Cc Γ X) : MtR X "str.join" (RM Γ (m1 gJoin)) := by
  intro pins s σ H x vs v us Q I rx rv hh
  obtain ⟨ρ, st, a, b, w1, rfl, h, ra, rb, p⟩ := rm1 hh
  unfold gJoin at p
  split at p
  · rename_i a'
    split at p
    · rename_i xs hx
      split at p
      · rename_i ys hy
        split at p
        · rename_i hl
          rw [decide_eq_true_eq] at hl
          obtain ⟨p0, zs, rfl, hv, hr⟩ := seqOf_okX c h hx rb
          have e := strsP_rep hy hr
          subst e
          cases ra
          refine mt_join pins s σ H _ _ v us Q I rx rv ⟨_, p0, ys.map tx, rfl, rfl, hv, ?_, by rw [join_tx]; exact po_ok p h (.str _)⟩
          rw [sum_tx, List.length_map, tx_len]
          exact Nat.le_trans hl (by decide)
        · exact p.elim
      · exact p.elim
    · exact p.elim
  · exact p.elim
end
end Pl

set_option Elab.async false
set_option linter.all false
set_option maxRecDepth 100000
set_option maxHeartbeats 1000000
/-! Pl, part V: enumerate. -/
namespace Pl
open PySem PySem.Spec PyProof.Rows L2
open AutoSeq1 (wpAny_loadPart')

theorem enum_new_tup (l : Addr) (items : Array Value) (n : Nat) (cls : Value) (hc : cls = .type "tuple") (dct : Option Addr) (sl : Array (Option Value)) :
    Meets (Builtin.«enumerate.__new__» ⟨[.type "enumerate", .ref l], []⟩) (fun _ R s => s.heap.get? l = some { cls := cls, dict := dct, data := .seq items n, slots := sl } ∧
      R (.ok (.ret (.ref (s.heap.push { cls := .type "tuple_iterator", data := .fields #[.ref l, .int 0 0] }).objs.size)))
        { s with heap := (s.heap.push { cls := .type "tuple_iterator", data := .fields #[.ref l, .int 0 0] }).push { cls := .type "enumerate", data := .fields #[.none, .bool false, .ref s.heap.objs.size, rawInt 0, .none, .none] } }) :=
  .of_wp fun prog w A R s h => by
    subst hc
    obtain ⟨hp, g, d, tk, os⟩ := s
    obtain ⟨hl, h⟩ := h
    have hsub := sub_enumerate
    have hL : Heap.IsTuple (Shared.heap ⟨hp, g, d, tk, os⟩) l items := ⟨_, hl, rfl, n, rfl⟩
    wp_walk using wpAny_loadPart' hl
    refine wpAny_stack_any fun st => wpAny_pure ?_
    split
    · rename_i c _ _ _ _ _
      cases (c == Value.type "enumerate")
      · wp_walk using wpAny_loadPart' hl, wpAny_pyIter_tuple hL
        exact ⟨_, rfl, h⟩
      · wp_walk using wpAny_loadPart' hl, wpAny_pyIter_tuple hL
        exact ⟨_, rfl, h⟩
    · wp_walk using wpAny_loadPart' hl, wpAny_pyIter_tuple hL
      exact ⟨_, rfl, h⟩
section
variable {prog : Program} {w : World} {A : Around} {E : Value → Shared → Prop} {s : Shared}
theorem call_enum_tup {l : Addr} {items : Array Value} {Q : Value → Shared → Prop} (hL : s.heap.IsTuple l items)
    (h : ∀ h', IsEnum h' (s.heap.objs.size + 1) s.heap.objs.size 0 .none → h'.IsTupleIter s.heap.objs.size l 0 → (∀ b o, s.heap.get? b = some o → h'.get? b = some o) → Q (.ref (s.heap.objs.size + 1)) { s with heap := h' }) :
    wpAny (model prog w) A (call (.type "enumerate") [.ref l]) Q E s := by
  obtain ⟨⟨c, dct, dt, sl⟩, hl, hc, n, hd⟩ := hL
  replace hc : c = .type "tuple" := hc
  replace hd : dt = .seq items n := hd
  subst hd
  refine callType_new F.called_enumerate (by decide) (F.typeCall_enumerate_1 _) (F.newCall_enumerate_1 _) (fun obj => F.args_object_init_2 obj _) F.entry_enumerate_new (enum_new_tup l items n c hc dct sl) ⟨hl, ?_⟩
  have hz : (s.heap.push { cls := .type "tuple_iterator", data := .fields #[.ref l, .int 0 0] }).objs.size = s.heap.objs.size + 1 := Heap.size_push ..
  show _ ∧ _
  rw [hz]
  have he : IsEnum ((s.heap.push { cls := .type "tuple_iterator", data := .fields #[.ref l, .int 0 0] }).push { cls := .type "enumerate", data := .fields #[.none, .bool false, .ref s.heap.objs.size, rawInt 0, .none, .none] }) (s.heap.objs.size + 1) s.heap.objs.size 0 .none := by
    have q := Heap.get?_push_size (s.heap.push { cls := .type "tuple_iterator", data := .fields #[.ref l, .int 0 0] }) (o := { cls := .type "enumerate", data := .fields #[.none, .bool false, .ref s.heap.objs.size, rawInt 0, .none, .none] }) rfl
    rwa [hz] at q
  exact ⟨⟨_, he, rfl⟩, h _ he ⟨_, Heap.get?_push_of_some _ (Heap.get?_push_size _ rfl), rfl, rfl⟩ fun b o x => Heap.get?_push_of_some _ (Heap.get?_push_of_some _ x)⟩
end
/-- the turns of enumerate over a tuple -/
def IteT (K : PySem.W.Frag) (a : Addr) : It :=
  ⟨fun i H => ∃ (xs : List V) (x : V), SqT K H a xs ∧ xs[i]? = some x, fun i H v H' => ∃ T x, v = .ref T ∧ H T = none ∧ H' = upd H T (.tup [.int (i : Nat), x]) ∧ ∀ xs, SqT K H a xs → xs[i]? = some x, fun i H => ∃ xs : List V, SqT K H a xs ∧ xs.length = i⟩
theorem turn_enumT {P : Program} {w : World} {K : PySem.W.Frag} {elts : List Expr} {kk : Nat} {tpos : Pos} (a e it : Addr) :
    Turn P w K (.Tuple elts kk tpos) (IteT K a) [e, it] e (fun i h => (∃ old, IsEnum h e it ((i : Nat) : Int) old) ∧ h.IsTupleIter it a i ∧ e ≠ it) where
  mem := by simp
  obj := fun i h st b hb => by
    obtain ⟨⟨old, he⟩, ⟨o, ho, hc, hd⟩, _⟩ := st
    rcases (show b = e ∨ b = it by simpa using hb) with z | z
    · rw [z]; exact ⟨_, he, fun v q => nomatch q⟩
    · rw [z]; exact ⟨o, ho, fun v q => by rw [hd] at q; cases q⟩
  keep := fun i h h' st k => let ⟨⟨old, he⟩, hi, hne⟩ := st; ⟨⟨old, k e (by simp) _ he⟩, hi.at fun o q => k it (by simp) o q, hne⟩
  item := by
    intro X hP hw hK hc i pins s σ H E I hf st hg
    subst hP hw hK
    obtain ⟨⟨old, he⟩, hit, hne⟩ := st
    obtain ⟨xs, x, hq, hx⟩ := hg
    obtain ⟨its, rv, p, hz⟩ := I.tuple hq
    obtain ⟨u, hu, ru⟩ := rv.get hx
    have hel : e < s.heap.objs.size := Heap.lt_size he
    have hil : it < s.heap.objs.size := let ⟨_, q, _⟩ := hit; Heap.lt_size q
    have hai : a ≠ it := fun z => by
      subst z
      obtain ⟨o1, g1, g2, _⟩ := hit
      obtain ⟨o2, k1, k2, _⟩ := p
      rw [g1] at k1
      cases k1
      rw [g2] at k2
      exact absurd k2 (by simp)
    have hea : e ≠ a := fun z => by
      subst z
      obtain ⟨o2, k1, k2, _⟩ := p
      rw [he] at k1
      cases k1
      exact absurd k2 (by simp)
    have hlt : i < its.toArray.size := by
      have := (List.getElem?_eq_some_iff.mp hu).1
      simpa using this
    refine wpAny_pyNext_enum_itemC (Draws.tuple (prog := X.prog) (w := X.w) (A := X.A.in1) (I.ok.hd hc) it a hai its.toArray) he ⟨hit, p⟩ hlt hne (by simp [hne, hea]) fun y h' tk hy ho hit' hT hsz hk => ?_
    have ey : y = u := by
      have : its.toArray[i]? = some u := by simpa using hu
      rw [this] at hy
      exact (Option.some.inj hy).symm
    subst ey
    refine ⟨_, rfl, wpAny_letOwnedTupleGo_enum (s := { s with heap := h', toks := tk + 1 }) ho fun h'' he' sb => ?_⟩
    have hT2 : h''.get? s.heap.objs.size = some { cls := .type "tuple", data := .seq #[.int i tk, y] } := (sb.2 _ (Nat.ne_of_gt hel)).trans hT
    have new : ObjOk X.prog X.w (upd H s.heap.objs.size (.tup [.int (i : Nat), x])) h'' s.heap.objs.size (.tup [.int (i : Nat), x]) :=
      ⟨by show 2 ≤ sizeLine; decide, [.int i tk, y], .cons ⟨_, rfl⟩ (.cons ru .nil), ⟨_, hT2, rfl, _, rfl⟩⟩
    have J : Inv X pins σ (upd H s.heap.objs.size (.tup [.int (i : Nat), x])) { s with heap := h'', toks := tk + 1 } :=
      I.turnedNew (ch := [e, it]) (fun b o hb q => (sb.2 b (fun z => hb (by simp [z]))).trans (hk b o (fun z => hb (by simp [z])) (fun z => hb (by simp [z])) q)) hf (Nat.le_refl _) new
    refine ⟨.ref s.heap.objs.size, _, J, rfl, ⟨_, x, rfl, I.hok.fresh (Nat.le_refl _), rfl, fun ys hy => by rw [I.tuple_inj hy hq]; exact hx⟩, ⟨⟨y, ?_⟩, hit'.1.at fun o q => (sb.2 it (Ne.symm hne)).trans q, hne⟩, fun b hb => ?_⟩
    · rw [show ((i + 1 : Nat) : Int) = (i : Int) + 1 by omega]; exact he'
    · have hb' : b < s.heap.objs.size := by
        rcases (show b = e ∨ b = it by simpa using hb) with z | z
        · rw [z]; exact hel
        · rw [z]; exact hil
      rw [upd_ne (Nat.ne_of_lt hb')]
      exact (hf b hb).1
  done := by
    intro X hP hw hK hc i pins s σ H E I hf st hg
    subst hP hw hK
    obtain ⟨⟨old, he⟩, hit, hne⟩ := st
    obtain ⟨xs, hq, hx⟩ := hg
    obtain ⟨its, rv, p, hz⟩ := I.tuple hq
    obtain ⟨f0, f1, f2, f3, f4, f5⟩ := hf it (by simp)
    have hl := rv.length
    have hai : a ≠ it := fun z => by
      subst z
      obtain ⟨o1, g1, g2, _⟩ := hit
      obtain ⟨o2, k1, k2, _⟩ := p
      rw [g1] at k1
      cases k1
      rw [g2] at k2
      exact absurd k2 (by simp)
    have hsz : its.toArray.size = i := by rw [List.size_toArray, ← hl, hx]
    exact wpAny_pyNext_enum_endD (Draws.tuple (prog := X.prog) (w := X.w) (A := X.A.in1) (I.ok.hd hc) it a hai its.toArray) he ⟨by rw [hsz]; exact hit, p⟩ fun h' eb => ⟨rfl, I.turned (t' := s.toks) (fun b o hb q => eb b o hb q) f0 f1 f3 f4 f5⟩
  self := fun A i s Q E st h => let ⟨⟨_, he⟩, _⟩ := st; wpAny_pyIter_enum he h
/-! ### as a walk of plain items -/
def enumP : Nat → List PV → List PV
  | _, [] => []
  | i, x :: xs => .tup [.int i, x] :: enumP (i + 1) xs
theorem enumP_length : ∀ (i : Nat) (xs : List PV), (enumP i xs).length = xs.length
  | _, [] => rfl
  | i, x :: xs => by simp only [enumP, List.length_cons, enumP_length (i + 1) xs]
theorem enumP_get : ∀ (k : Nat) (xs : List PV) (i : Nat) (y : PV), (enumP k xs)[i]? = some y → ∃ x, xs[i]? = some x ∧ y = .tup [.int (k + i : Nat), x]
  | _, [], _, _, h => by simp [enumP] at h
  | k, x :: xs, 0, y, h => by
    simp only [enumP, List.getElem?_cons_zero, Option.some.injEq] at h
    exact ⟨x, rfl, h.symm⟩
  | k, x :: xs, i + 1, y, h => by
    simp only [enumP, List.getElem?_cons_succ] at h
    obtain ⟨z, h1, h2⟩ := enumP_get (k + 1) xs i y h
    exact ⟨z, by simpa using h1, by rw [h2, show k + 1 + i = k + (i + 1) by omega]⟩
def iEnumF (f : AF) : IF := fun η st => (f η st).bind fun as s => match as with
  | [x] => match x with
    | .tup xs => .ok (enumP 0 xs) s
    | .lst xs => .ok (enumP 0 xs) s
    | _ => .stuck
  | _ => .stuck
section
variable {Γ : Ct} {X : Cx} {ρ : Rho} {H : Hp} {st : Sto}
theorem enum_walk {J : It} {xs : List PV} {vs : List V} (r : Reps Γ ρ H xs vs) (hgo : ∀ ρ' H' i x, Kp ρ H ρ' H' → vs[i]? = some x → J.go i H') (hst : ∀ ρ' H', Kp ρ H ρ' H' → J.stop vs.length H')
    (hy : ∀ ρ' H' i v H'', Kp ρ H ρ' H' → J.yld i H' v H'' → ∃ T x, v = .ref T ∧ H' T = none ∧ H'' = upd H' T (.tup [.int (i : Nat), x]) ∧ vs[i]? = some x) : WalkJ Γ ρ H (enumP 0 xs) J := fun ρ' st' H' e s => by
  refine ⟨fun i y hi => ?_, by rw [enumP_length, r.length]; exact hst ρ' H' e⟩
  obtain ⟨x, hx, rfl⟩ := enumP_get 0 xs i y hi
  obtain ⟨v, hv, rv⟩ := r.get hx
  refine ⟨hgo ρ' H' i v e hv, fun u H'' yy => ?_⟩
  obtain ⟨T, x', rfl, hT, rfl, hx'⟩ := hy ρ' H' i u H'' e yy
  rw [hv] at hx'
  cases hx'
  refine ⟨ext_new s hT, rst_new s hT, .tup (TupAt.new s hT) ?_⟩
  rw [Nat.zero_add]
  exact .cons (.int _) (.cons ((rv.kp e).kp (ext_new s hT).kp) .nil)
theorem pi_enumF (c : Cc Γ X) {e : Expr} {f : AF} {p pos tpos : Pos} {elts : List Expr} {kk : Nat} (hg : Gl X "enumerate") (hm : X.mg "enumerate" = none) (ha : PA X [e] (TAf Γ f)) (hs : starEach [e] X.env = [(false, eval e X.env)] := by rfl) :
    PI X (.Tuple elts kk tpos) (.Call (.Name "enumerate" p) [e] [] pos) (TIf Γ (iEnumF f)) := by
  refine ⟨fun pins s σ H R I ⟨ρ, η, st, s0, n0, q0⟩ => ?_⟩
  refine Call_ (ld_blt I hg hm boot_enumerate (PyProof.Rows.callWith_type1 (thn (ha.run pos pins s σ H _ I (ta_bind q0 s0 n0)) fun us s1 ⟨vs, H1, I1, r1, ρ1, as, st1, e1, s1', n1, r2, q⟩ => ?_) hs rfl))
  split at q
  · rename_i x
    obtain ⟨v, rfl, rx⟩ := reps1 r2
    obtain ⟨u, rfl, ru⟩ := r1.one
    have foot : ∀ b, b = s1.heap.objs.size + 1 ∨ b = s1.heap.objs.size → FpOk X pins H1 b := fun b z => by
      have hle : s1.heap.objs.size ≤ b := by
        rcases z with z | z
        · rw [z]; exact Nat.le_add_right _ _
        · rw [z]; exact Nat.le_refl _
      exact I1.fpOk hle (I1.hok.fresh hle)
    split at q
    · rename_i xs
      cases rx with
      | tup t rr =>
        cases ru
        have t' := t.sq
        rw [← c.K] at t'
        obtain ⟨its, rv, pp, hz⟩ := I1.tuple t'
        refine call_enum_tup (show s1.heap.IsTuple _ its.toArray from pp) fun h' he hit hk => wpAny_pyIter_enum he ?_
        have I2 : Inv X pins σ H1 { s1 with heap := h' } := I1.kept (t' := s1.toks) hk
        refine ⟨s1.heap.objs.size + 1, [s1.heap.objs.size + 1, s1.heap.objs.size], _, _, H1, rfl, I2, turn_enumT _ (s1.heap.objs.size + 1) s1.heap.objs.size, ⟨⟨.none, he⟩, hit, Nat.succ_ne_self _⟩, fun b hb => foot b (by simpa using hb), ?_⟩
        refine po_ok q s1' (enum_walk rr (fun ρ' H' i x e hx => ⟨_, x, by rw [c.K]; exact t.ext e, hx⟩) (fun ρ' H' e => ⟨_, by rw [c.K]; exact t.ext e, rfl⟩) fun ρ' H' i v H'' e yy => ?_)
        obtain ⟨T, x, h1, h2, h3, h4⟩ := yy
        exact ⟨T, x, h1, h2, h3, h4 _ (by rw [c.K]; exact t.ext e)⟩
    · rename_i xs
      cases rx with
      | lst t rr =>
        cases ru
        have t' := t.sq
        rw [← c.K] at t'
        obtain ⟨its, rv, pp, hz⟩ := I1.list t'
        refine call_enumerate_list pp.isList fun h' he hit hsz hk => wpAny_pyIter_enum he ?_
        have I2 : Inv X pins σ H1 { s1 with heap := h' } := I1.kept (t' := s1.toks) hk
        refine ⟨s1.heap.objs.size + 1, [s1.heap.objs.size + 1, s1.heap.objs.size], _, _, H1, rfl, I2, turn_enum _ (s1.heap.objs.size + 1) s1.heap.objs.size, ⟨⟨.none, he⟩, hit, Nat.succ_ne_self _⟩, fun b hb => foot b (by simpa using hb), ?_⟩
        refine po_ok q s1' (enum_walk rr (fun ρ' H' i x e hx => ⟨_, x, by rw [c.K]; exact t.ext e, hx⟩) (fun ρ' H' e => ⟨_, by rw [c.K]; exact t.ext e, Nat.le_refl _⟩) fun ρ' H' i v H'' e yy => ?_)
        obtain ⟨T, x, h1, h2, h3, h4⟩ := yy
        exact ⟨T, x, h1, h2, h3, h4 _ (by rw [c.K]; exact t.ext e)⟩
    · exact q.elim
  · exact q.elim
end
end Pl

set_option Elab.async false
set_option linter.all false
set_option maxRecDepth 100000
set_option maxHeartbeats 1000000
/-! Pl, part W: going through a dict: its keys, values, pairs. -/
namespace Pl
open PySem PySem.Spec PyProof.Rows L2

section
variable {prog : Program} {w : World} {A : Around} {E : Value → Shared → Prop} {s : Shared} {it d : Addr} {i ep : Nat} {es : Array DictEntry}
theorem calls_values {v : Addr} {Q : Value → Shared → Prop} (hd : (d == sysModules) = false) (hm : DT.Raw s.heap d es ep)
    (h : Q (.ref s.heap.objs.size) { s with heap := s.heap.push { cls := .type "dict_values", data := .fields #[.ref d] } }) : wpAny (model prog w) A (call (.builtin "dict.values") [.ref d]) Q E s := by
  refine wpAny_call_entry PySem.F.slot_dict_values hm.typeIs PySem.F.entry_dict_values ?_ (PySem.F.args_dict_values_1 _)
  unfold Builtin.«dict.values»
  refine wpAny_bind ?_
  unfold Builtin.Dict.noArgs
  refine wpAny_bind (wpAny_notOrdered_dict hm.typeIs (show wpAny _ _ (pure d) _ _ s from wpAny_pure ?_))
  refine (show wpAny _ _ (Builtin.Dict.showsAll d >>= _) _ _ s from ?_)
  unfold Builtin.Dict.showsAll
  rw [if_neg (show ¬ ((d == sysModules) = true) by rw [hd]; exact Bool.false_ne_true)]
  exact wpAny_bind (wpAny_pure (wpAny_bind (wpAny_newObj_type (wpAny_pure ⟨_, rfl, h⟩))))
theorem iters_values {v : Addr} {Q : Value → Shared → Prop} (hv : s.heap.IsValuesView v d) (hm : DT.Raw s.heap d es ep)
    (hQ : Q (.ref s.heap.objs.size) { s with heap := s.heap.push { cls := .type "dict_valueiterator", data := .fields #[.ref d, .int 0 0, .int es.size 0, .int ep 0] } }) : wpAny (model prog w) A (pyIter (.ref v)) Q E s := by
  obtain ⟨ov, hov, hcv, hdv⟩ := id hv
  obtain ⟨o, ho, hc, hdat⟩ := id hm
  refine wpAny_pyIter_slot hv.typeIs PySem.F.slot_dict_values_iter (wpAny_call_entry PySem.F.slot_dict_values_iter hv.typeIs PySem.F.entry_dict_values_iter ?_ (PySem.F.args_dict_values_iter_1 _))
  unfold Builtin.«dict_values.__iter__»
  refine wpAny_bind (wpAny_pure (wpAny_bind ?_))
  unfold Builtin.Dict_items.dictOf
  refine wpAny_bind (wpAny_field hov hdv (x := .ref d) rfl (wpAny_pure (wpAny_bind ?_)))
  unfold Builtin.Dict_items.newIterator
  refine wpAny_bind (wpAny_dictEntries ho hdat (wpAny_bind (wpAny_dictEpoch ho hdat ?_)))
  simp only [show Builtin.Dict_items.ownsTuple "dict_valueiterator" = false by decide, Bool.false_eq_true, if_false]
  refine wpAny_newObj_type (wpAny_pure ⟨_, rfl, "dict_valueiterator", _, ⟨_, Heap.get?_push_size _ rfl, rfl⟩, PySem.F.slot_dict_valueiterator_next.lookup, ?_⟩)
  simpa [rawInt] using hQ
theorem nextV {Q : Option Value → Shared → Prop} (hit : s.heap.IsValIter it d i es.size ep) (hm : DT.Raw s.heap d es ep) (hi : i < es.size)
    (hQ : ∀ h', h'.IsValIter it d (i + 1) es.size ep → Heap.SameBut it s.heap h' → Q (some es[i].val) { s with heap := h' }) : wpAny (model prog w) A (pyNext (.ref it)) Q E s := by
  obtain ⟨o, ho, hc, hd⟩ := id hit
  obtain ⟨od, hod, hcd, hdd⟩ := id hm
  unfold pyNext
  refine wpAny_bind (wpAny_attempt (wpAny_callSpecial?_slot (name := Str.ofString "__next__") hit.typeIs PySem.F.slot_dict_valueiterator_next (wpAny_call_entry PySem.F.slot_dict_valueiterator_next hit.typeIs PySem.F.entry_dict_valueiterator_next ?_ (PySem.F.args_dict_valueiterator_next_1 _))))
  refine wpAny_bind (wpAny_pure (wpAny_bind (wpAny_bind ?_)))
  first
    | refine wpAny_bind (wpAny_typeNameOfWhole_valiter hit.typeIs (wpAny_pure (wpAny_bind (wpAny_fieldsOf ho hd ?_))))
    | refine wpAny_bind (wpAny_typeNameOf_valiter hit.typeIs (wpAny_pure (wpAny_bind (wpAny_fieldsOf ho hd ?_))))
  simp only [show Builtin.Dict_items.ownsTuple "dict_valueiterator" = false by decide, Bool.false_eq_true, if_false]
  refine (show wpAny _ _ (if (Value.ref d == Value.none) = true then _ else _) _ _ s from ?_)
  rw [if_neg (show ¬ (Value.ref d == Value.none) = true from Bool.false_ne_true)]
  refine wpAny_bind (wpAny_pure (wpAny_bind (wpAny_dictEntries hod hdd ?_)))
  rw [if_neg (show ¬ _ by simp)]
  refine wpAny_bind (wpAny_pure (wpAny_bind (wpAny_dictEpoch hod hdd ?_)))
  rw [if_neg (show ¬ _ by simp)]
  refine wpAny_pure ?_
  simp only [show ¬ ((i : Int) < 0) by omega, if_false, Int.toNat_natCast, Array.getElem?_eq_getElem hi]
  refine wpAny_bind ?_
  first
    | refine wpAny_bind (wpAny_typeNameOfWhole_valiter hit.typeIs (wpAny_pure (wpAny_bind (wpAny_isOneOf_valiter hit.typeIs ?_))))
    | refine wpAny_bind (wpAny_typeNameOf_valiter hit.typeIs (wpAny_pure (wpAny_bind (wpAny_isOneOf_valiter hit.typeIs ?_))))
  refine (show wpAny _ _ (setField (.ref it) 1 (rawInt ((i : Int) + 1)) >>= _) _ _ s from wpAny_bind (wpAny_setField ho hd (by simp) ?_))
  have next : (s.heap.update it (Obj.mapFields (·.setIfInBounds 1 (rawInt ((i : Int) + 1))))).IsValIter it d (i + 1) es.size ep :=
    ⟨_, Heap.get?_update_self _ ho (Obj.isFreed_of_fields (Obj.data_mapFields hd _)), (Obj.cls_mapFields ..).trans hc, by rw [Obj.data_mapFields hd]; simp [rawInt]⟩
  have ty : ({ s with heap := s.heap.update it (Obj.mapFields (·.setIfInBounds 1 (rawInt ((i : Int) + 1)))) } : Shared).TypeIs (.ref it) "dict_valueiterator" := next.typeIs
  refine wpAny_bind (wpAny_holding (wpAny_bind (wpAny_isOneOf_valiter ty (wpAny_bind (wpAny_isOneOf_valiter ty ?_)))))
  exact (show wpAny _ _ (pure es[i].val) _ _ _ from wpAny_pure (wpAny_pure ⟨_, rfl, wpAny_pure (hQ _ next (Heap.SameBut.update ..))⟩))
theorem endV {Q : Option Value → Shared → Prop} (hh : A.handled = none) (hit : s.heap.IsValIter it d i es.size ep) (hm : DT.Raw s.heap d es ep) (hge : es.size ≤ i)
    (hQ : ∀ h', Heap.ExtBut it s.heap h' → Q none { s with heap := h' }) : wpAny (model prog w) A (pyNext (.ref it)) Q E s := by
  obtain ⟨o, ho, hc, hd⟩ := id hit
  obtain ⟨od, hod, hcd, hdd⟩ := id hm
  unfold pyNext
  refine wpAny_bind (wpAny_attempt (wpAny_callSpecial?_slot (name := Str.ofString "__next__") hit.typeIs PySem.F.slot_dict_valueiterator_next (wpAny_call_entry PySem.F.slot_dict_valueiterator_next hit.typeIs PySem.F.entry_dict_valueiterator_next ?_ (PySem.F.args_dict_valueiterator_next_1 _))))
  refine wpAny_bind (wpAny_pure (wpAny_bind (wpAny_bind ?_)))
  first
    | refine wpAny_bind (wpAny_typeNameOfWhole_valiter hit.typeIs (wpAny_pure (wpAny_bind (wpAny_fieldsOf ho hd ?_))))
    | refine wpAny_bind (wpAny_typeNameOf_valiter hit.typeIs (wpAny_pure (wpAny_bind (wpAny_fieldsOf ho hd ?_))))
  simp only [show Builtin.Dict_items.ownsTuple "dict_valueiterator" = false by decide, Bool.false_eq_true, if_false]
  refine (show wpAny _ _ (if (Value.ref d == Value.none) = true then _ else _) _ _ s from ?_)
  rw [if_neg (show ¬ (Value.ref d == Value.none) = true from Bool.false_ne_true)]
  refine wpAny_bind (wpAny_pure (wpAny_bind (wpAny_dictEntries hod hdd ?_)))
  rw [if_neg (show ¬ _ by simp)]
  refine wpAny_bind (wpAny_pure (wpAny_bind (wpAny_dictEpoch hod hdd ?_)))
  rw [if_neg (show ¬ _ by simp)]
  refine wpAny_pure ?_
  simp only [show ¬ ((i : Int) < 0) by omega, if_false, Int.toNat_natCast, Array.getElem?_eq_none hge]
  refine wpAny_bind ?_
  first
    | refine wpAny_bind (wpAny_typeNameOfWhole_valiter hit.typeIs (wpAny_pure ?_))
    | refine wpAny_bind (wpAny_typeNameOf_valiter hit.typeIs (wpAny_pure ?_))
  refine (show wpAny _ _ (setField (.ref it) 0 .none >>= _) _ _ s from wpAny_bind (wpAny_setField ho hd (by simp) ?_))
  refine (show wpAny _ _ (newExc (.type "StopIteration") [] >>= _) _ _ _ from wpAny_bind ?_)
  simp only [newExc, newTuple]
  refine wpAny_bind (wpAny_newObj_type (wpAny_bind (m := firstArgMember _ _) (wpAny_of_eq (a := Value.none) (by first | rfl | (simp only [firstArgMember]; rfl)) ?_)) (by size_fits))
  refine wpAny_newObj_type ?_ (by size_fits)
  simp only [raiseNew]
  refine wpAny_bind (wpAny_handled ?_)
  rw [show A.in1.handled = none from hh]
  refine wpAny_bind (wpAny_pure (wpAny_throw ?_))
  exact wpAny_bind (wpAny_isInstance (T := "StopIteration") (b := true) ⟨_, Heap.get?_push_size _ rfl, rfl⟩ isSubtype_stop (wpAny_pure (hQ _ (((Heap.SameBut.update ..).extBut.push _).push _))))
end

/-! ### the turns -/
abbrev EsV := List (V × NestedKey × V)
def ItDK (w : World) (d : Addr) (o : Obj) (es : EsV) : It :=
  ⟨fun i H => Rd H d (.frz o (DN w d es)) ∧ i < es.length, fun i H v H' => H' = H ∧ ∃ e, es[i]? = some e ∧ v = e.1, fun i H => Rd H d (.frz o (DN w d es)) ∧ es.length = i⟩
def ItDV (w : World) (d : Addr) (o : Obj) (es : EsV) : It :=
  ⟨fun i H => Rd H d (.frz o (DN w d es)) ∧ i < es.length, fun i H v H' => H' = H ∧ ∃ e, es[i]? = some e ∧ v = e.2.2, fun i H => Rd H d (.frz o (DN w d es)) ∧ es.length = i⟩
def ItDI (w : World) (d : Addr) (o : Obj) (es : EsV) : It :=
  ⟨fun i H => Rd H d (.frz o (DN w d es)) ∧ i < es.length, fun i H v H' => ∃ T e, v = .ref T ∧ H T = none ∧ H' = upd H T (.tup [e.1, e.2.2]) ∧ es[i]? = some e, fun i H => Rd H d (.frz o (DN w d es)) ∧ es.length = i⟩
section
variable {X : Cx} {H : Hp} {pins : List (Addr × Obj)} {s : Shared} {σ : L2.St} {d : Addr} {o : Obj} {es : EsV} {w : World}
/-- what stands there -/
theorem frzD (I : Inv X pins σ H s) (h : Rd H d (.frz o (DN w d es))) : ∃ (ents : Array DictEntry) (ep : Nat), (d == sysModules) = false ∧ s.heap.get? d = some o ∧ o.ExactDict ∧ o.data = .dict ents ep ∧ DT.Raw s.heap d ents ep ∧ ents.size = es.length ∧ ents.size ≤ sizeLine ∧
    ∀ (i : Nat) (e : V × NestedKey × V), es[i]? = some e → ∃ en : DictEntry, ents[i]? = some en ∧ RelV e.1 en.key ∧ RelV e.2.2 en.val := by
  obtain ⟨hg, x⟩ : s.heap.get? d = some o ∧ DIs w d es s.heap := let q := h.ok I.hok; ⟨q.1, q.2.1⟩
  obtain ⟨q1, q2, q3, o', ents, ep, ho, hx, hd, pr⟩ := x
  rw [hg] at ho
  cases ho
  have hl := Paired.length pr
  have e2 : ents.toList.length = ents.size := Array.length_toList
  refine ⟨ents, ep, q1, hg, hx, hd, ⟨o, hg, hx, hd⟩, by omega, by omega, fun i e he => ?_⟩
  have key : ∀ {l1 : EsV} {l2 : List DictEntry} {i : Nat}, Paired (fun (p : V × NestedKey × V) (e : DictEntry) => RelV p.1 e.key ∧ e.hash = p.2.1.hash w ∧ RelV p.2.2 e.val) l1 l2 → l1[i]? = some e → ∃ en, l2[i]? = some en ∧ RelV e.1 en.key ∧ RelV e.2.2 en.val := by
    intro l1 l2 i p
    induction p generalizing i with
    | nil => intro h; simp at h
    | cons h t ih =>
      intro hi
      cases i with
      | zero => cases (show some _ = some e from hi); exact ⟨_, rfl, h.1, h.2.2⟩
      | succ i => exact ih hi
  obtain ⟨en, h1, h2⟩ := key pr he
  exact ⟨en, by rw [← Array.getElem?_toList]; exact h1, h2⟩
end
section
variable {P : Program} {w w' : World} {K : PySem.W.Frag} {tg : Expr} {d : Addr} {o : Obj} {es : EsV} {ents : Array DictEntry} {ep : Nat}
theorem turn_DK (it : Addr) (hod : o.data = .dict ents ep) (hsz : ents.size = es.length) : Turn P w K tg (ItDK w' d o es) [it] it (fun i h => h.IsKeyIter it d i es.length ep) where
  mem := by simp
  obj := fun i h st b hb => by
    rw [show b = it by simpa using hb]
    obtain ⟨oi, e, c, dd⟩ := st
    exact ⟨oi, e, fun v z => by rw [dd] at z; cases z⟩
  keep := fun i h h' st k => st.at fun oi e => k it (by simp) oi e
  item := by
    intro X hP hw hK hc i pins s σ H E I hf st ⟨hd, hi⟩
    subst hP hw hK
    obtain ⟨f0, f1, f2, f3, f4, f5⟩ := hf it (by simp)
    obtain ⟨ents', ep', hs, hgd, hx, hdt, raw, hsz', hz, at'⟩ := frzD I hd
    obtain ⟨rfl, rfl⟩ := dict_ep hod hdt
    have he : es[i]? = some es[i] := List.getElem?_eq_getElem hi
    obtain ⟨en, hen, rk, rv⟩ := at' i _ he
    refine next_key_item st hgd hdt hsz' hen fun h' st' sb => ?_
    have J : Inv X pins σ H { s with heap := h' } := I.turned (t' := s.toks) (fun b ob hb e => (sb.2 b hb).trans e) f0 f1 f3 f4 f5
    obtain ⟨oi, e, c, dd⟩ := id st'
    exact ⟨en.key, rfl, go_of (s := { s with heap := h' }) e c dd (by decide) ⟨_, H, J, rk, ⟨rfl, _, he, rfl⟩, st', fun b hb => (hf b hb).1⟩⟩
  done := by
    intro X hP hw hK hc i pins s σ H E I hf st ⟨hd, hi⟩
    subst hP hw hK
    obtain ⟨f0, f1, f2, f3, f4, f5⟩ := hf it (by simp)
    obtain ⟨ents', ep', hs, hgd, hx, hdt, raw, hsz', hz, at'⟩ := frzD I hd
    obtain ⟨rfl, rfl⟩ := dict_ep hod hdt
    exact next_key_end (I.ok.hd hc) st hgd hdt hsz' (Nat.le_of_eq hi) fun h' eb => ⟨rfl, I.turned (t' := s.toks) (fun b ob hb e => eb b ob hb e) f0 f1 f3 f4 f5⟩
  self := fun A i s Q E st h => by
    refine wpAny_pyIter_slot st.typeIs F.slot_dict_keyiterator_iter (wpAny_call_entry F.slot_dict_keyiterator_iter st.typeIs F.entry_dict_keyiterator_iter ?_ (F.args_dict_keyiterator_iter_1 _))
    exact (show wpAny _ _ (ret (.ref it)) _ _ s from wpAny_pure ⟨_, rfl, "dict_keyiterator", _, st.typeIs, F.slot_dict_keyiterator_next.lookup, h⟩)
theorem turn_DV (it : Addr) (hod : o.data = .dict ents ep) (hsz : ents.size = es.length) : Turn P w K tg (ItDV w' d o es) [it] it (fun i h => h.IsValIter it d i ents.size ep) where
  mem := by simp
  obj := fun i h st b hb => by
    rw [show b = it by simpa using hb]
    obtain ⟨oi, e, c, dd⟩ := st
    exact ⟨oi, e, fun v z => by rw [dd] at z; cases z⟩
  keep := fun i h h' st k => st.at fun oi e => k it (by simp) oi e
  item := by
    intro X hP hw hK hc i pins s σ H E I hf st ⟨hd, hi⟩
    subst hP hw hK
    obtain ⟨f0, f1, f2, f3, f4, f5⟩ := hf it (by simp)
    obtain ⟨ents', ep', hs, hgd, hx, hdt, raw, hsz', hz, at'⟩ := frzD I hd
    obtain ⟨rfl, rfl⟩ := dict_ep hod hdt
    have he : es[i]? = some es[i] := List.getElem?_eq_getElem hi
    obtain ⟨en, hen, rk, rv⟩ := at' i _ he
    have hlt := (Array.getElem?_eq_some_iff.mp hen).1
    refine nextV st raw hlt fun h' st' sb => ?_
    have J : Inv X pins σ H { s with heap := h' } := I.turned (t' := s.toks) (fun b ob hb e => (sb.2 b hb).trans e) f0 f1 f3 f4 f5
    obtain ⟨oi, e, c, dd⟩ := id st'
    rw [(Array.getElem?_eq_some_iff.mp hen).2]
    exact ⟨en.val, rfl, go_of (s := { s with heap := h' }) e c dd (by decide) ⟨_, H, J, rv, ⟨rfl, _, he, rfl⟩, st', fun b hb => (hf b hb).1⟩⟩
  done := by
    intro X hP hw hK hc i pins s σ H E I hf st ⟨hd, hi⟩
    subst hP hw hK
    obtain ⟨f0, f1, f2, f3, f4, f5⟩ := hf it (by simp)
    obtain ⟨ents', ep', hs, hgd, hx, hdt, raw, hsz', hz, at'⟩ := frzD I hd
    obtain ⟨rfl, rfl⟩ := dict_ep hod hdt
    exact endV (I.ok.hd hc) st raw (by omega) fun h' eb => ⟨rfl, I.turned (t' := s.toks) (fun b ob hb e => eb b ob hb e) f0 f1 f3 f4 f5⟩
  self := fun A i s Q E st h => wpAny_pyIter_valiter st h
theorem turn_DI {elts : List Expr} {kk : Nat} {tpos : Pos} (it : Addr) (hod : o.data = .dict ents ep) (hsz : ents.size = es.length) : Turn P w K (.Tuple elts kk tpos) (ItDI w' d o es) [it] it (fun i h => ∃ ok ov, IsItemIter h it d i ents.size ep ok ov) where
  mem := by simp
  obj := fun i h st b hb => by
    rw [show b = it by simpa using hb]
    obtain ⟨ok, ov, e⟩ := st
    exact ⟨_, e, fun v z => nomatch z⟩
  keep := fun i h h' st k => let ⟨ok, ov, e⟩ := st; ⟨ok, ov, k it (by simp) _ e⟩
  item := by
    intro X hP hw hK hc i pins s σ H E I hf st ⟨hd, hi⟩
    subst hP hw hK
    obtain ⟨ents', ep', hs, hgd, hx, hdt, raw, hsz', hz, at'⟩ := frzD I hd
    obtain ⟨rfl, rfl⟩ := dict_ep hod hdt
    have he : es[i]? = some es[i] := List.getElem?_eq_getElem hi
    obtain ⟨en, hen, rk, rv⟩ := at' i _ he
    obtain ⟨hlt, hge⟩ := Array.getElem?_eq_some_iff.mp hen
    obtain ⟨ok, ov, hit⟩ := st
    have hil : it < s.heap.objs.size := Heap.lt_size hit
    refine DT.nextI hit raw hlt fun h' ho hT hz hk => ?_
    rw [hge] at ho hT
    refine ⟨_, rfl, wpAny_letOwnedTupleGo_items (s := { s with heap := h' }) ho fun h'' hit' sb => ?_⟩
    have hT2 : h''.get? s.heap.objs.size = some { cls := .type "tuple", data := .seq #[en.key, en.val] } := (sb.2 _ (Nat.ne_of_gt hil)).trans hT
    have new : ObjOk X.prog X.w (upd H s.heap.objs.size (.tup [es[i].1, es[i].2.2])) h'' s.heap.objs.size (.tup [es[i].1, es[i].2.2]) :=
      ⟨by show 2 ≤ sizeLine; decide, [en.key, en.val], .cons rk (.cons rv .nil), ⟨_, hT2, rfl, _, rfl⟩⟩
    have J : Inv X pins σ (upd H s.heap.objs.size (.tup [es[i].1, es[i].2.2])) { s with heap := h'' } :=
      I.turnedNew (t' := s.toks) (ch := [it]) (fun b ob hb e => (sb.2 b (by simpa using hb)).trans (hk b ob (by simpa using hb) e)) hf (Nat.le_refl _) new
    refine ⟨.ref s.heap.objs.size, _, J, rfl, ⟨_, es[i], rfl, I.hok.fresh (Nat.le_refl _), rfl, he⟩, ⟨_, _, hit'⟩, fun b hb => ?_⟩
    rw [show b = it by simpa using hb, upd_ne (Nat.ne_of_lt hil)]
    exact (hf it (by simp)).1
  done := by
    intro X hP hw hK hc i pins s σ H E I hf st ⟨hd, hi⟩
    subst hP hw hK
    obtain ⟨f0, f1, f2, f3, f4, f5⟩ := hf it (by simp)
    obtain ⟨ents', ep', hs, hgd, hx, hdt, raw, hsz', hz, at'⟩ := frzD I hd
    obtain ⟨rfl, rfl⟩ := dict_ep hod hdt
    obtain ⟨ok, ov, hit⟩ := st
    exact DT.endI (I.ok.hd hc) hit raw (by omega) fun h' eb => ⟨rfl, I.turned (t' := s.toks) (fun b ob hb e => eb b ob hb e) f0 f1 f3 f4 f5⟩
  self := fun A i s Q E st h => let ⟨_, _, e⟩ := st; PySem.W.kcp_self e h
end

/-! ### as walks of plain items -/
section
variable {Γ : Ct} {X : Cx} {ρ : Rho} {H : Hp} {st : Sto}
theorem repD_get : ∀ {kvs : List (PV × PV)} {es : EsV} {i : Nat} {p : PV × PV}, RepD Γ ρ H kvs es → kvs[i]? = some p → ∃ e, es[i]? = some e ∧ Rep Γ ρ H p.1 e.1 ∧ Rep Γ ρ H p.2 e.2.2
  | _, _, _, _, .nil, h => by simp at h
  | _, _, 0, _, .cons a _ b _, h => by
    cases (show some _ = some _ from h)
    exact ⟨_, rfl, a, b⟩
  | _, _, i + 1, _, .cons _ _ _ t, h => by
    obtain ⟨e, h1, h2⟩ := repD_get (i := i) t (by simpa using h)
    exact ⟨e, by simpa using h1, h2⟩
theorem repD_len : ∀ {kvs : List (PV × PV)} {es : EsV}, RepD Γ ρ H kvs es → kvs.length = es.length
  | _, _, .nil => rfl
  | _, _, .cons _ _ _ t => by rw [List.length_cons, List.length_cons, repD_len t]
/-- d.keys and for k in d; d.values(); d.items() -/
def iKeysF (f : EF) : IF := fun η st => (f η st).bind fun v s => match v with
  | .dct kvs => .ok (kvs.map (·.1)) s
  | _ => .stuck
def iValsF (f : EF) : IF := fun η st => (f η st).bind fun v s => match v with
  | .dct kvs => .ok (kvs.map (·.2)) s
  | _ => .stuck
def iItemsF (f : EF) : IF := fun η st => (f η st).bind fun v s => match v with
  | .dct kvs => .ok (kvs.map fun p => .tup [p.1, p.2]) s
  | _ => .stuck
theorem walk_DK {a : Addr} {o : Obj} {es : EsV} {kvs : List (PV × PV)} (h : Rd H a (.frz o (DN Γ.w a es))) (n : a ∉ ρ) (r : RepD Γ ρ H kvs es) : WalkJ Γ ρ H (kvs.map (·.1)) (ItDK Γ.w a o es) := fun ρ' st' H' e s => by
  refine ⟨fun i x hx => ?_, ⟨(e.rd _ _ h n).1, by rw [List.length_map]; exact (repD_len r).symm⟩⟩
  rw [List.getElem?_map] at hx
  cases hk : kvs[i]? with
  | none => rw [hk] at hx; cases hx
  | some p =>
    rw [hk] at hx
    cases hx
    obtain ⟨en, h1, h2, h3⟩ := repD_get r hk
    refine ⟨⟨(e.rd _ _ h n).1, (List.getElem?_eq_some_iff.mp h1).1⟩, fun v H'' y => ?_⟩
    obtain ⟨rfl, en', h4, rfl⟩ := y
    rw [h1] at h4
    cases h4
    exact ⟨Ext.refl _ _, s, h2.kp e⟩
theorem walk_DV {a : Addr} {o : Obj} {es : EsV} {kvs : List (PV × PV)} (h : Rd H a (.frz o (DN Γ.w a es))) (n : a ∉ ρ) (r : RepD Γ ρ H kvs es) : WalkJ Γ ρ H (kvs.map (·.2)) (ItDV Γ.w a o es) := fun ρ' st' H' e s => by
  refine ⟨fun i x hx => ?_, ⟨(e.rd _ _ h n).1, by rw [List.length_map]; exact (repD_len r).symm⟩⟩
  rw [List.getElem?_map] at hx
  cases hk : kvs[i]? with
  | none => rw [hk] at hx; cases hx
  | some p =>
    rw [hk] at hx
    cases hx
    obtain ⟨en, h1, h2, h3⟩ := repD_get r hk
    refine ⟨⟨(e.rd _ _ h n).1, (List.getElem?_eq_some_iff.mp h1).1⟩, fun v H'' y => ?_⟩
    obtain ⟨rfl, en', h4, rfl⟩ := y
    rw [h1] at h4
    cases h4
    exact ⟨Ext.refl _ _, s, h3.kp e⟩
theorem walk_DI {a : Addr} {o : Obj} {es : EsV} {kvs : List (PV × PV)} (h : Rd H a (.frz o (DN Γ.w a es))) (n : a ∉ ρ) (r : RepD Γ ρ H kvs es) : WalkJ Γ ρ H (kvs.map fun p => .tup [p.1, p.2]) (ItDI Γ.w a o es) := fun ρ' st' H' e s => by
  refine ⟨fun i x hx => ?_, ⟨(e.rd _ _ h n).1, by rw [List.length_map]; exact (repD_len r).symm⟩⟩
  rw [List.getElem?_map] at hx
  cases hk : kvs[i]? with
  | none => rw [hk] at hx; cases hx
  | some p =>
    rw [hk] at hx
    cases hx
    obtain ⟨en, h1, h2, h3⟩ := repD_get r hk
    refine ⟨⟨(e.rd _ _ h n).1, (List.getElem?_eq_some_iff.mp h1).1⟩, fun v H'' y => ?_⟩
    obtain ⟨T, en', rfl, hT, rfl, h4⟩ := y
    rw [h1] at h4
    cases h4
    exact ⟨ext_new s hT, rst_new s hT, .tup (TupAt.new s hT) (.cons ((h2.kp e).kp (ext_new s hT).kp) (.cons ((h3.kp e).kp (ext_new s hT).kp) .nil))⟩
variable {tg e : Expr} {f : EF} {apos cpos : Pos}
theorem pi_keysF (he : PE X e (TEf Γ f)) : PI X tg e (TIf Γ (iKeysF f)) := by
  refine ⟨fun pins s σ H R I ⟨ρ, η, st, s0, n0, p⟩ => ?_⟩
  refine thn (he.run pins s σ H _ I (te_bind p s0 n0)) fun u s1 ⟨x, H1, I1, rx, ρ1, a, st1, e1, s1', n1, q1, p1⟩ => ?_
  cases a with
  | dct kvs =>
    cases q1 with
    | dct t n rd =>
      cases rx
      obtain ⟨ents, ep, hs, hgd, hx, hdt, raw, hsz, hz, _⟩ := frzD I1 t
      exact iter_keys hs hgd hx hdt (pi_one (tk := s1.toks) I1 _ (turn_DK _ hdt hsz) ⟨_, Heap.get?_push_size _ rfl, rfl, by rw [hsz]; rfl⟩ (po_ok p1 s1' (walk_DK t n rd)))
  | _ => exact p1.elim
theorem pi_valsF (he : PE X e (TEf Γ f)) (hbase : attributeBase e "values" X.env (eval e X.env) = eval e X.env := by rfl) (hline : (apos.endLine == cpos.line) = true := by rfl) : PI X tg (.Call (.Attribute e "values" apos) [] [] cpos) (TIf Γ (iValsF f)) := by
  refine ⟨fun pins s σ H R I ⟨ρ, η, st, s0, n0, p⟩ => ?_⟩
  refine wpAny_Call_method (T := "dict") (id := "dict.values") hbase rfl hline F.plainAttrs_dict F.slot_dict_values F.type_dict_values (thn (he.run pins s σ H _ I (te_bind p s0 n0)) fun u s1 ⟨x, H1, I1, rx, ρ1, a, st1, e1, s1', n1, q1, p1⟩ => ?_)
  cases a with
  | dct kvs =>
    cases q1 with
    | dct t n rd =>
      rename_i ad o es
      cases rx
      obtain ⟨ents, ep, hs, hgd, hx, hdt, raw, hsz, hz, _⟩ := frzD I1 t
      refine ⟨raw.typeIs, fun b q => by cases q; exact ⟨o, hgd, hx.2.1⟩, ?_⟩
      refine Calls.callWith_builtin rfl (PySem.evalArgs_none (calls_values (v := ad) hs raw ?_))
      have I2 : Inv X pins σ H1 { s1 with heap := s1.heap.push { cls := .type "dict_values", data := .fields #[.ref ad] } } := I1.kept (t' := s1.toks) fun b ob q => Heap.get?_push_of_some _ q
      have raw2 : DT.Raw (s1.heap.push { cls := .type "dict_values", data := .fields #[.ref ad] }) ad ents ep := raw.push _
      exact iters_values (s := { s1 with heap := s1.heap.push { cls := .type "dict_values", data := .fields #[.ref ad] } }) ⟨_, Heap.get?_push_size _ rfl, rfl, rfl⟩ raw2
        (pi_one (tk := s1.toks) I2 _ (turn_DV _ hdt hsz) ⟨_, Heap.get?_push_size _ rfl, rfl, rfl⟩ (po_ok p1 s1' (walk_DV t n rd)))
  | _ => exact p1.elim
theorem pi_itemsF {elts : List Expr} {kk : Nat} {tpos : Pos} (he : PE X e (TEf Γ f)) (hbase : attributeBase e "items" X.env (eval e X.env) = eval e X.env := by rfl) (hline : (apos.endLine == cpos.line) = true := by rfl) :
    PI X (.Tuple elts kk tpos) (.Call (.Attribute e "items" apos) [] [] cpos) (TIf Γ (iItemsF f)) := by
  refine ⟨fun pins s σ H R I ⟨ρ, η, st, s0, n0, p⟩ => ?_⟩
  refine wpAny_Call_method (T := "dict") (id := "dict.items") hbase rfl hline F.plainAttrs_dict F.slot_dict_items F.type_dict_items (thn (he.run pins s σ H _ I (te_bind p s0 n0)) fun u s1 ⟨x, H1, I1, rx, ρ1, a, st1, e1, s1', n1, q1, p1⟩ => ?_)
  cases a with
  | dct kvs =>
    cases q1 with
    | dct t n rd =>
      rename_i ad o es
      cases rx
      obtain ⟨ents, ep, hs, hgd, hx, hdt, raw, hsz, hz, _⟩ := frzD I1 t
      refine ⟨raw.typeIs, fun b q => by cases q; exact ⟨o, hgd, hx.2.1⟩, ?_⟩
      refine Calls.callWith_builtin rfl (PySem.evalArgs_none (DT.callItems hs raw ?_))
      have I2 : Inv X pins σ H1 { s1 with heap := s1.heap.push { cls := .type "dict_items", data := .fields #[.ref ad] } } := I1.kept (t' := s1.toks) fun b ob q => Heap.get?_push_of_some _ q
      have raw2 : DT.Raw (s1.heap.push { cls := .type "dict_items", data := .fields #[.ref ad] }) ad ents ep := raw.push _
      exact DT.iterI (s := { s1 with heap := s1.heap.push { cls := .type "dict_items", data := .fields #[.ref ad] } }) ⟨_, Heap.get?_push_size _ rfl, rfl, rfl⟩ raw2
        (pi_one (tk := s1.toks) I2 _ (turn_DI _ hdt hsz) ⟨.none, .none, Heap.get?_push_size _ rfl⟩ (po_ok p1 s1' (walk_DI t n rd)))
  | _ => exact p1.elim
end
end Pl

set_option Elab.async false
set_option linter.all false
set_option maxRecDepth 100000
/-! Pl, part X: x[::-1]; stars; instances; tuple(range). -/
namespace Pl
open PySem PySem.Spec PyProof.Rows L2

section
variable {Γ : Ct} {X : Cx} {ρ : Rho} {H : Hp} {st : Sto}
/-! ### x[::-1] -/
theorem rev_at (z : Str) : (Builtin.Str.strSliceIndices none none (-1) z.length).filterMap (z.cps[·]?) = z.cps.toList.reverse := by
  show (sliceRange ((z.cps.size : Int) - 1) (-1) (-1)).filterMap (z.cps[·]?) = _
  rw [PySem.W.krv_sliceRange, PySem.W.krv_range, List.filterMap_reverse, PySem.W.krv_all]
theorem rev_len (z : Str) : (Builtin.Str.strSliceIndices none none (-1) z.length).length = z.length := by
  show (sliceRange ((z.cps.size : Int) - 1) (-1) (-1)).length = _
  rw [PySem.W.krv_sliceRange, List.length_map, List.length_range]
  rfl
def oRev (a : PV) (st : Sto) : R PV := match a with
  | .str c => match decide (c.length ≤ LIM) with
    | true => .ok (.str c.reverse) st
    | false => .stuck
  | a => match lstOf st a with
    | some xs => .ok (.lst xs.reverse) st
    | none => .stuck
theorem ok_rev (c : Cc Γ X) {e : Expr} {f : EF} {k : Nat} {pa pb p3 pos : Pos} (he : PE X e (TEf Γ f)) : PE X (.Subscript e (.Slice none none (some (.UnaryOp .USub (.Constant (.int 1) k pa) pb)) p3) pos) (TEf Γ (eU oRev f)) := by
  refine ⟨fun pins s σ H Q I ⟨ρ, η, st, s0, n0, p⟩ => ?_⟩
  refine Subscript_ (thn (he.run pins s σ H _ I (te_bind p s0 n0)) fun v s1 ⟨x, H1, I1, r1, ρ1, a, st1, e1, s1', n1, q1, p1⟩ => ?_)
  have hst : PO X (some (.UnaryOp .USub (.Constant (.int 1) k pa) pb)) (tPart (tUn (rU fun i => .int (-i)) (tC (.int 1)))) := po_some (pe_un un_neg pe_int)
  refine wpAny_Slice (thn (L2.po_none.run pins s1 σ H1 (fun o H2 => o = none ∧ H2 = H1) I1 ⟨rfl, rfl⟩) fun vl s2 ⟨l, H2, I2, pl, el, e2⟩ => ?_)
  subst el e2
  refine thn (L2.po_none.run pins s2 σ H2 (fun o H3 => o = none ∧ H3 = H2) I2 ⟨rfl, rfl⟩) fun vu s3 ⟨u, H3, I3, pu, eu, e3⟩ => ?_
  subst eu e3
  refine thn (hst.run pins s3 σ H3 (fun o H4 => o = some (-1) ∧ H4 = H3) I3 ⟨1, rfl, -1, rfl, rfl, rfl⟩) fun vs s4 ⟨o, H4, I4, ps, eo, e4⟩ => ?_
  subst eo e4
  have I5 : Inv X pins σ H4 { s4 with heap := s4.heap.push { cls := .type "slice", data := .fields #[vl, vu, vs] } } := I4.kept (t' := s4.toks) fun b ob q => Heap.get?_push_of_some _ q
  refine (show wpAny (model X.prog X.w) X.A (subscriptTail e (.Slice none none (some (.UnaryOp .USub (.Constant (.int 1) k pa) pb)) p3) v (.ref s4.heap.objs.size)) (EP X pins σ Q) X.xe { s4 with heap := s4.heap.push { cls := .type "slice", data := .fields #[vl, vu, vs] } } from ?_)
  unfold oRev at p1
  split at p1
  · rename_i cs
    split at p1
    · rename_i hl
      rw [decide_eq_true_eq] at hl
      cases q1
      obtain ⟨t, rfl⟩ := r1
      refine tail_any (ops := [.str (tx cs) t, .ref s4.heap.objs.size]) (typeIs_str _ _ _) PySem.F.slot_str_getitem.lookup ?_ (by with_unfolding_all rfl)
      obtain ⟨l', rfl, hl'⟩ := IsPart.raw pl
      obtain ⟨u', rfl, hu'⟩ := IsPart.raw pu
      obtain ⟨w', rfl, hw'⟩ := IsPart.raw ps
      refine wpAny_getItem_str_slice (l := l') (u := u') (st := w') ⟨_, Heap.get?_push_size _ rfl, rfl, rfl⟩ (by rw [hw']; rfl) ?_
      unfold sliceMade slicePicked
      rw [hl', hu', hw', if_neg (by simp)]
      have e := rev_at (tx cs)
      rw [tx_cps] at e
      show Made.post (Made.str ⟨((Builtin.Str.strSliceIndices none none (-1) (tx cs).length).filterMap ((tx cs).cps[·]?)).toArray⟩) (EP X pins σ Q) _
      rw [e]
      refine ⟨?_, .str (tx cs.reverse), H4, I5.tok _, ⟨_, rfl⟩, po_ok p1 s1' (.str _)⟩
      show cs.reverse.toArray.size ≤ sizeLine
      rw [List.size_toArray, List.length_reverse]
      exact lim_le hl
    · exact p1.elim
  · cases hi : lstOf st1 a with
    | none => rw [hi] at p1; exact p1.elim
    | some xs =>
      rw [hi] at p1
      obtain ⟨p0, zs, rfl, hv, hr⟩ := lstOf_ok c s1' hi q1
      cases r1
      obtain ⟨its, r, ht, hz⟩ := I5.list hv
      have hlen := r.length
      refine tail_any (ops := [.ref p0, .ref s4.heap.objs.size]) ht.isList.typeIs (PySem.slot_list_getitem.lookup) ?_ (by with_unfolding_all rfl)
      refine wpAny_getItem_list_slice ht.isList (Heap.IsSliceOf.new _ vl vu vs) pl pu ps (by decide) ?_ (by rw [List.size_toArray]; omega)
      rw [PySem.W.krv_pick]
      have hq := I5.hok.fresh (Nat.le_refl _)
      refine ⟨.ref _, _, I5.laid (t' := s4.toks) (o := .lst zs.reverse) (fun b ob q => Heap.get?_push_of_some _ q) (Nat.le_refl _) ⟨by rw [List.length_reverse]; exact hz, _, 0, r.reverse, Heap.get?_push_size _ rfl⟩, rfl, ?_⟩
      exact p1 ρ1 _ _ (ext_new s1' hq) (rst_new s1' hq) (.lst (LstAt.new s1' hq) (hr.reverse.kp (ext_new s1' hq).kp))
/-! ### stars -/
def aStar (f : EF) (g : AF) : AF := fun η st => (f η st).bind fun v s => match seqOf s v with
  | some xs => (g η s).bind fun ys s => .ok (xs ++ ys) s
  | none => .stuck
theorem oka_star (c : Cc Γ X) {e : Expr} {es : List Expr} {p : Pos} {f : EF} {g : AF} (he : PE X e (TEf Γ f)) (hr : PA X es (TAf Γ g)) (hs : starEach (.Starred e p :: es) X.env = (true, eval e X.env) :: starEach es X.env := by rfl) : PA X (.Starred e p :: es) (TAf Γ (aStar f g)) :=
  pa_of (StX.pa_star he hr hs) fun σ H Q ⟨ρ, η, st, s, n, p⟩ =>
    te_mono (te_bind p s n) fun x H1 ⟨ρ1, a, st1, e1, s1, n1, r1, p1⟩ => by
      cases hi : seqOf st1 a with
      | none => rw [hi] at p1; exact p1.elim
      | some xs =>
        rw [hi] at p1
        obtain ⟨p0, vs, rfl, hv, hr⟩ := seqOf_okX c s1 hi r1
        exact ⟨p0, vs, rfl, hv.symm, ta_mono (ta_bind p1 s1 n1) fun ys H2 ⟨ρ2, bs, st2, e2, s2, n2, r2, p2⟩ => po_ok p2 s2 ((hr.kp e2.kp).append r2)⟩
/-! ### instances -/
def fldOf : List (List Nat × PV) → List Nat → Option PV
  | [], _ => none
  | p :: fs, nm => match p.1 == nm with
    | true => some p.2
    | false => fldOf fs nm
def putFld (nm : List Nat) (v : PV) : List (List Nat × PV) → List (List Nat × PV)
  | [] => [(nm, v)]
  | p :: fs => match p.1 == nm with
    | true => (p.1, v) :: fs
    | false => p :: putFld nm v fs
theorem fld_look : ∀ {fs : List (List Nat × PV)} {us : List V} {nm : List Nat}, Reps Γ ρ H (fs.map (·.2)) us →
    (fldOf fs nm = none ∧ ((fs.map fun p => tx p.1).zip us).lookup (tx nm) = none) ∨ ∃ x v, fldOf fs nm = some x ∧ ((fs.map fun p => tx p.1).zip us).lookup (tx nm) = some v ∧ Rep Γ ρ H x v
  | [], _, _, r => by cases r; exact .inl ⟨rfl, rfl⟩
  | p :: fs, _, nm, r => by
    cases r with
    | @cons _ v _ us r1 r2 =>
      have ih := fld_look (nm := nm) r2
      by_cases h : p.1 = nm
      · refine .inr ⟨p.2, v, ?_, ?_, r1⟩
        · simp only [fldOf, beq_iff_eq.mpr h]
        · rw [List.map_cons, List.zip_cons_cons, List.lookup_cons, h]
          simp
      · have h1 : (p.1 == nm) = false := beq_eq_false_iff_ne.mpr h
        have h2 : (tx nm == tx p.1) = false := beq_eq_false_iff_ne.mpr fun e => h (tx_inj e.symm)
        simp only [fldOf, h1]
        rw [List.map_cons, List.zip_cons_cons, List.lookup_cons, h2]
        exact ih
theorem fld_put {nm : List Nat} {x : PV} {v : V} (rx : Rep Γ ρ H x v) : ∀ {fs : List (List Nat × PV)} {us : List V}, Reps Γ ρ H (fs.map (·.2)) us →
    ∃ us', putF (tx nm) v ((fs.map fun p => tx p.1).zip us) = ((putFld nm x fs).map fun p => tx p.1).zip us' ∧ Reps Γ ρ H ((putFld nm x fs).map (·.2)) us'
  | [], _, r => by cases r; exact ⟨[v], rfl, .cons rx .nil⟩
  | p :: fs, _, r => by
    cases r with
    | @cons _ w _ us r1 r2 =>
      by_cases h : p.1 = nm
      · refine ⟨v :: us, ?_, ?_⟩
        · simp only [putFld, beq_iff_eq.mpr h, List.map_cons, List.zip_cons_cons, putF, if_pos (show tx p.1 = tx nm by rw [h])]
        · simp only [putFld, beq_iff_eq.mpr h, List.map_cons]
          exact .cons rx r2
      · obtain ⟨us', e1, e2⟩ := fld_put (nm := nm) rx r2
        have h1 : (p.1 == nm) = false := beq_eq_false_iff_ne.mpr h
        refine ⟨w :: us', ?_, ?_⟩
        · simp only [putFld, h1, List.map_cons, List.zip_cons_cons, putF, if_neg (show ¬ tx p.1 = tx nm from fun e => h (tx_inj e)), e1]
        · simp only [putFld, h1, List.map_cons]
          exact .cons r1 e2
theorem insAt (s : RSt Γ ρ st H) {n : Nat} {c : Nat} {fs : List (List Nat × PV)} {v : V} (hn : st[n]? = some (.ins c fs)) (r : Rep Γ ρ H (.loc n) v) : ∃ a dx us, v = .ref a ∧ H a = some (.ins (Γ.cls c) dx ((fs.map fun p => tx p.1).zip us)) ∧ Reps Γ ρ H (fs.map (·.2)) us ∧ ρ.l[n]? = some a := by
  cases r with
  | loc h =>
    have q := s.at' n _ _ hn h
    cases q with
    | ins e r => exact ⟨_, _, _, rfl, e, r, h⟩
/-- v.nm, v an instance of the class c -/
def eFld (c : Nat) (nm : List Nat) (f : EF) : EF := fun η st => (f η st).bind fun v s => match v with
  | .loc n => match s[n]? with
    | some (.ins d fs) => match Nat.beq d c with
      | true => match fldOf fs nm with
        | some x => .ok x s
        | none => .stuck
      | false => .stuck
    | _ => .stuck
  | _ => .stuck
theorem ok_fld {cx : Nat} {nm : List Nat} {x : Str} {e : Expr} {f : EF} {pos : Pos} (he : PE X e (TEf Γ f)) (hx : x = tx nm) (hc : Cls X.K (Γ.cls cx)) (hn : NoAttr X.K (Γ.cls cx) x) (hb : attributeBase e x X.env (eval e X.env) = eval e X.env := by rfl) : PE X (.Attribute e x pos) (TEf Γ (eFld cx nm f)) :=
  pe_of (pe_fld he hb) fun σ H Q ⟨ρ, η, st, s, n, p⟩ => te_mono (te_bind p s n) fun y H1 ⟨ρ1, a, st1, e1, s1, n1, r1, p1⟩ => by
    split at p1
    · rename_i m
      split at p1
      · rename_i d fs hm
        split at p1
        · rename_i hd
          have hdc : d = cx := Nat.eq_of_beq_eq_true hd
          subst hdc
          obtain ⟨ad, dx, us, rfl, hH, rr, hl⟩ := insAt s1 hm r1
          rcases fld_look (nm := nm) rr with ⟨g1, _⟩ | ⟨z, v, g1, g2, g3⟩
          · rw [g1] at p1; exact p1.elim
          · rw [g1] at p1
            exact ⟨ad, _, dx, _, v, rfl, hH, hc, hn, by rw [hx]; exact g2, po_ok p1 s1 g3⟩
        · exact p1.elim
      · exact p1.elim
    · exact p1.elim
/-- o.nm = v -/
def sFldP (c : Nat) (nm : List Nat) (fo fv : EF) : SF := fun η st => (fv η st).toS η fun v s => (fo η s).toS η fun o s => match o with
  | .loc n => match s[n]? with
    | some (.ins d fs) => match Nat.beq d c && decide (fs.length < 900) with
      | true => .nx η (s.set n (.ins d (putFld nm v fs)))
      | false => .stuck
    | _ => .stuck
  | _ => .stuck
theorem ok_sfld {cx : Nat} {nm : List Nat} {x : Str} {o value : Expr} {fo fv : EF} {pos pos' : Pos} (ho : PE X o (TEf Γ fo)) (hv : PE X value (TEf Γ fv)) (hx : x = tx nm) (hc : Cls X.K (Γ.cls cx)) (hn : NoAttr X.K (Γ.cls cx) x)
    (hs : swapsWith value (some (.Attribute o x pos')) pos.line X.env = pure false := by rfl) : PS X (.Assign [.Attribute o x pos'] value pos) (TSf Γ (sFldP cx nm fo fv)) :=
  ps_of (ps_fld ho hv hs) fun D σ H ⟨ρ, η, st, s, n, p⟩ => te_mono (ts_e p s n) fun y H1 ⟨ρ1, v, st1, e1, s1, n1, r1, p1⟩ => te_mono (ts_e p1 s1 n1) fun z H2 ⟨ρ2, a, st2, e2, s2, n2, r2, p2⟩ => by
    split at p2
    · rename_i m
      split at p2
      · rename_i d fs hm
        split at p2
        · rename_i hd
          rw [Bool.and_eq_true, decide_eq_true_eq] at hd
          have hdc : d = cx := Nat.eq_of_beq_eq_true hd.1
          subst hdc
          obtain ⟨ad, dx, us, rfl, hH, rr, hl⟩ := insAt s2 hm r2
          have rl := rr.length
          rw [List.length_map] at rl
          refine ⟨ad, _, dx, _, rfl, hH, hc, hn, by rw [List.length_zip, List.length_map]; omega, ?_⟩
          obtain ⟨us', g1, g2⟩ := fld_put (nm := nm) (r1.kp e2.kp) rr
          rw [hx, g1]
          exact p2 ρ2 _ _ (ext_write hl) (rst_write s2 hl (.ins upd_same (g2.kp (ext_write hl).kp))) (n2.kp (ext_write hl).kp)
        · exact p2.elim
      · exact p2.elim
    · exact p2.elim
/-- C(..) -/
def eMake (c : Nat) (g : List PV → Sto → R PV) (f : AF) : EF := fun η st => (f η st).bind fun as s => (g (.loc s.length :: as) (s ++ [.ins c []])).bind fun v s' => match v with
  | .non => .ok (.loc s.length) s'
  | _ => .stuck
theorem ok_make {cx : Nat} {e : Expr} {g : List PV → Sto → R PV} {f : AF} (h : PE X e (tMake (Γ.cls cx) (spF Γ g) [] E0 (TAf Γ f))) : PE X e (TEf Γ (eMake cx g f)) := pe_of h fun σ H Q ⟨ρ, η, st, s, n, p⟩ =>
  ta_mono (ta_bind p s n) fun vs H1 ⟨ρ1, as, st1, e1, s1, n1, r1, p1⟩ x dx hx hdx hne => by
    rw [List.append_nil]
    -- the instance's dict, the instance
    have hx2 : (upd H1 dx (.own x)) x = none := by rw [upd_ne (Ne.symm hne)]; exact hx
    have s2 := rst_new s1 hdx (o := .own x)
    have ea := ext_new s1 hdx (o := .own x)
    have s3 := rst_add s2 hx2 (o := .ins (Γ.cls cx) dx []) (ob := .ins cx []) (.ins (us := []) upd_same .nil)
    have eb := ext_add s2 hx2 (o := .ins (Γ.cls cx) dx [])
    have ee := ea.trans eb
    refine ⟨ρ1.add x, st1 ++ [.ins cx []], .loc st1.length :: as, s3, .cons (loc_add s1) (r1.kp ee.kp), ?_⟩
    have p2 := Po.ext ee p1
    have hloc : (ρ1.add x).l[st1.length]? = some x := by
      show (ρ1.l ++ [x])[st1.length]? = _
      rw [← s1.len, List.getElem?_append_right (Nat.le_refl _)]; simp
    revert p2
    cases g (.loc st1.length :: as) (st1 ++ [.ins cx []]) with
    | stuck => exact fun p => p
    | exc _ _ _ => exact fun p => p
    | ok v st4 =>
      intro p2 ρ4 H4 b e4 s4 r4
      have p3 := Po.ext e4 p2
      cases v with
      | non => cases r4; exact ⟨rfl, po_ok p3 s4 (.loc (e4.get hloc))⟩
      | _ => exact p3.elim
/-- o.m(..), o an instance of the class c -/
def eMeth (c : Nat) (nm : List Nat) (g : List PV → Sto → R PV) (f : EF) (h : AF) : EF := fun η st => (f η st).bind fun v s => match v with
  | .loc n => match s[n]? with
    | some (.ins d fs) => match Nat.beq d c with
      | true => match fldOf fs nm with
        | none => (h η s).bind fun as s => g (.loc n :: as) s
        | some _ => .stuck
      | false => .stuck
    | _ => .stuck
  | _ => .stuck
theorem te_meth {cx : Nat} {nm : List Nat} {x : Str} {g : List PV → Sto → R PV} {f : EF} {h : AF} (hx : x = tx nm) {σ : L2.St} {H : Hp} {Q : VK} (q : TEf Γ (eMeth cx nm g f h) σ H Q) : tMeth (Γ.cls cx) x (spF Γ g) [] E0 (TEf Γ f) (TAf Γ h) σ H Q := by
  obtain ⟨ρ, η, st, s, n, p⟩ := q
  refine te_mono (te_bind p s n) fun y H1 ⟨ρ1, a, st1, e1, s1, n1, r1, p1⟩ => ?_
  split at p1
  · rename_i m
    split at p1
    · rename_i d fs hm
      split at p1
      · rename_i hd
        have hdc : d = cx := Nat.eq_of_beq_eq_true hd
        subst hdc
        obtain ⟨ad, dx, us, rfl, hH, rr, hl⟩ := insAt s1 hm r1
        rcases fld_look (nm := nm) rr with ⟨g1, g2⟩ | ⟨z, v, g1, g2, g3⟩
        · rw [g1] at p1
          refine ⟨ad, dx, _, rfl, hH, by rw [hx]; exact g2, ta_mono (ta_bind p1 s1 n1) fun vs H2 ⟨ρ2, as, st2, e2, s2, n2, r2, p2⟩ => ?_⟩
          rw [List.append_nil]
          exact ⟨ρ2, st2, _, s2, .cons (r1.kp e2.kp) r2, p2⟩
        · rw [g1] at p1; exact p1.elim
      · exact p1.elim
    · exact p1.elim
  · exact p1.elim
theorem ok_meth {cx : Nat} {nm : List Nat} {x : Str} {e : Expr} {g : List PV → Sto → R PV} {f : EF} {h : AF} (hx : x = tx nm) (q : PE X e (tMeth (Γ.cls cx) x (spF Γ g) [] E0 (TEf Γ f) (TAf Γ h))) : PE X e (TEf Γ (eMeth cx nm g f h)) := pe_of q fun _ _ _ => te_meth hx
theorem ok_meth0 {cx : Nat} {nm : List Nat} {x : Str} {e : Expr} {g : List PV → Sto → R PV} {f : EF} (hx : x = tx nm) (q : PE X e (tMeth (Γ.cls cx) x (spF Γ g) [] E0 (TEf Γ f) tNil)) : PE X e (TEf Γ (eMeth cx nm g f aNil)) := pe_of q fun σ H Q z => by
  have t := te_meth hx z
  refine te_mono (show TEf Γ f σ H _ from t) fun y H1 ⟨a, dx, fs, e1, e2, e3, e4⟩ => ⟨a, dx, fs, e1, e2, e3, ?_⟩
  exact ta_nil e4
/-! ### tuple(range(n)) -/
def eTupR (f : EF) : EF := fun η st => (f η st).bind fun v s => match v with
  | .int j => match rgOk j && decide (j ≤ 100000) with
    | true => .ok (.tup (rangeL 0 j.toNat)) s
    | false => .stuck
  | _ => .stuck
theorem rg_reps {n : Nat} : ∀ {lo : Int}, Reps Γ ρ H (rangeL lo n) ((List.range n).map fun i => V.int (lo + (i : Nat))) := by
  intro lo
  unfold rangeL
  generalize List.range n = l
  induction l with
  | nil => exact .nil
  | cons a l ih => exact .cons (.int _) ih
theorem ok_tupR {e : Expr} {f : EF} (h : PE X e (tTupRg (tRg1 (TEf Γ f)))) : PE X e (TEf Γ (eTupR f)) := pe_of h fun σ H Q ⟨ρ, η, st, s, n, p⟩ =>
  te_mono (te_bind p s n) fun x H1 ⟨ρ1, v, st1, e1, s1, n1, r1, p1⟩ => by
    cases v with
    | int j =>
      dsimp only at p1
      split at p1
      · rename_i hj
        rw [Bool.and_eq_true, decide_eq_true_eq] at hj
        cases r1
        have a := rgOk_iff hj.1
        refine ⟨j, rfl, ⟨by decide, by decide, a.1, a.2, by omega⟩, fun q hq => ?_⟩
        refine p1 ρ1 _ _ (ext_new s1 hq) (rst_new s1 hq) (.tup (TupAt.new s1 hq) ?_)
        unfold rgV
        rw [Int.sub_zero]
        exact rg_reps
      · exact p1.elim
    | _ => exact p1.elim
end
end Pl

set_option Elab.async false
set_option linter.all false
set_option maxRecDepth 100000
/-! Pl, part Y: comprehensions of two fors. -/
namespace Pl
open PySem PySem.Spec PyProof.Rows L2

def lc2L (t : Tg) (c : BF) (it1 : IF) (own1 : List Nat) (t1 : Tg) (c1 : BF) (f : EF) (η : En) : List PV → Sto → R (List PV)
  | [], st => .ok [] st
  | x :: xs, st => match t.bind x η with
    | none => .stuck
    | some η1 => (c η1 st).bind fun b s => match b with
      | true => (it1 η1 s).bind fun ys s => (lcL t1 c1 f (wipeE η1 own1) ys s).bind fun vs s => (lc2L t c it1 own1 t1 c1 f η xs s).bind fun ws s => .ok (vs ++ ws) s
      | false => lc2L t c it1 own1 t1 c1 f η xs s
def eLC2 (it : IF) (own : List Nat) (t : Tg) (c : BF) (it1 : IF) (own1 : List Nat) (t1 : Tg) (c1 : BF) (f : EF) : EF := fun η st => (it η st).bind fun items s => (lc2L t c it1 own1 t1 c1 f (wipeE η own) items s).bind mkLst
section
variable {X : Cx} {Γ : Ct} {pos : Pos}
/-- the turns that fill the list at D, whatever comes behind -/
theorem lc_turns {t : Tg} {cc : BF} {f : EF} {own : List Nat} (ht : ∀ i ∈ t.slots, i ∈ own) {σ : L2.St} {η : En} {ρ1 : Rho} {H1 : Hp} {Q : VK} {D : Addr} {J : It} {items : List PV} {K : List PV → Sto → R PV} {Fin : Hp → Prop} (hD : H1 D = none)
    (hK : ∀ l s v s', K l s = .ok v s' → l.length ≤ LIM)
    {ρa : Rho} {Ha : Hp} {sta : Sto} {accA : List PV} {accVA : List V}
    (hF : ∀ ρ st H accP accV, ρ.h = D :: ρ1.h → RSt Γ ρ st H → Kp ρa Ha ρ H → Kp ρ1 H1 ρ H → Ext ρ1 H1 (ρ.with ρ1.h) H → H D = some (.lst accV) → Reps Γ ρ H accP accV → Po Γ ρ1 H1 (Rep Γ) (K accP st) Q → Fin H) (w1 : WalkJ Γ ρa Ha items J) (a1 : ρa.h = D :: ρ1.h) (a2 : RSt Γ ρa sta Ha) (a3 : REn Γ ρa Ha η σ) (a4 : Kp ρ1 H1 ρa Ha) (a5 : Ext ρ1 H1 (ρa.with ρ1.h) Ha) (a6 : Ha D = some (.lst accVA)) (a7 : Reps Γ ρa Ha accA accVA)
    (p1 : Po Γ ρ1 H1 (Rep Γ) ((lcL t cc f (wipeE η own) items sta).bind fun vs s => K (accA ++ vs) s) Q) :
    ∃ W : Nat → Nat → Hp → Prop, (∃ m, W 0 m Ha) ∧ ∀ i m H, W i m H →
      (J.stop i H ∧ Fin H) ∨ (J.go i H ∧ ∃ Nx : Hp → Prop, (∀ H', Nx H' → ∃ m', m' < m ∧ W (i + 1) m' H') ∧ ∀ x H', J.yld i H x H' → (TGf Γ t) x (wipe σ own) H' fun σ2 H2 => wipe σ2 own = wipe σ own ∧ (TTf Γ cc) σ2 H2 fun b H3 =>
        if b = true then (TEf Γ f) σ2 H3 fun y H4 => ∃ acc, H4 D = some (.lst acc) ∧ acc.length < sizeLine ∧ Nx (upd H4 D (.lst (acc ++ [y]))) else Nx H3) := by
  refine ⟨fun i m H => ∃ ρ st rest accP accV, items.length = i + rest.length ∧ items.drop i = rest ∧ m = rest.length ∧ ρ.h = D :: ρ1.h ∧ RSt Γ ρ st H ∧ REn Γ ρ H η σ ∧ Kp ρa Ha ρ H ∧ Kp ρ1 H1 ρ H ∧ Ext ρ1 H1 (ρ.with ρ1.h) H ∧ H D = some (.lst accV) ∧ Reps Γ ρ H accP accV ∧
    Po Γ ρ1 H1 (Rep Γ) ((lcL t cc f (wipeE η own) rest st).bind fun vs s => K (accP ++ vs) s) Q,
    ⟨_, ρa, sta, items, accA, accVA, by simp, rfl, rfl, a1, a2, a3, Kp.refl _ _, a4, a5, a6, a7, p1⟩, ?_⟩
  rintro i m H2 ⟨ρ, st, rest, accP, accV, hl, hd, rfl, hh, s, n, ka, k, ex, hDv, hacc, p⟩
  have memD : D ∈ ρ.h := by rw [hh]; simp
  cases rest with
  | nil =>
    have := (w1 ρ st H2 ka s).2
    have e : items.length = i := by simpa using hl
    rw [e] at this
    refine .inl ⟨this, ?_⟩
    simp only [lcL, R.bind, List.append_nil] at p
    exact hF ρ st H2 accP accV hh s ka k ex hDv hacc p
  | cons x xs =>
    have hx : items[i]? = some x := by
      have : (items.drop i)[0]? = some x := by rw [hd]; rfl
      rwa [List.getElem?_drop, Nat.add_zero] at this
    obtain ⟨go, yl⟩ := (w1 ρ st H2 ka s).1 i x hx
    refine .inr ⟨go, fun H' => ∃ ρ' st' accP' accV', ρ'.h = D :: ρ1.h ∧ RSt Γ ρ' st' H' ∧ REn Γ ρ' H' η σ ∧ Kp ρa Ha ρ' H' ∧ Kp ρ1 H1 ρ' H' ∧ Ext ρ1 H1 (ρ'.with ρ1.h) H' ∧ H' D = some (.lst accV') ∧ Reps Γ ρ' H' accP' accV' ∧
      Po Γ ρ1 H1 (Rep Γ) ((lcL t cc f (wipeE η own) xs st').bind fun vs s => K (accP' ++ vs) s) Q, fun H' ⟨ρ', st', accP', accV', b1, b2, b3, b4, b5, b6, b7, b8, b9⟩ => ⟨xs.length, Nat.lt_succ_self _, ρ', st', xs, accP', accV', ?_, ?_, rfl, b1, b2, b3, b4, b5, b6, b7, b8, b9⟩, fun v H' y => ?_⟩
    · rw [hl, List.length_cons]; omega
    · have : items.drop (i + 1) = (items.drop i).drop 1 := by rw [List.drop_drop]
      rw [this, hd]; rfl
    · obtain ⟨e3, s3, r3⟩ := yl v H' y
      simp only [lcL] at p
      split at p
      · obtain ⟨v, s', hm⟩ := po_is p
        cases hm
      · rename_i η1 hb
        refine ⟨ρ, _, x, (n.kp e3.kp).wipe own, r3, η1, hb, fun σ2 n2 sb => ⟨by rw [sb own ht, wipe_wipe], ρ, η1, st, s3, n2, ?_⟩⟩
        rw [rbind_assoc] at p
        have kc := p
        revert kc
        clear p
        cases cc η1 st with
        | stuck => exact fun p => p
        | exc _ _ _ => exact fun p => p
        | ok b st4 =>
          intro kc ρ4 H4 b' e4 s4 hb'
          cases hb'
          have h4 : ρ4.h = D :: ρ1.h := by rw [e4.hd, hh]
          have hD4 : H4 D = some (.lst accV) := (e4.keep D _ (e3.keep D _ hDv (s.hid D memD).2).1 (s.hid D memD).2).1
          have ex4 : Ext ρ1 H1 (ρ4.with ρ1.h) H4 := (Bare.ext (Bare.ext ex e3) e4)
          have k34 := e3.kp.trans e4.kp
          cases b with
          | false => exact iteF ⟨ρ4, st4, accP, accV, h4, s4, n.kp k34, ka.trans k34, k.trans k34, ex4, hD4, hacc.kp k34, kc⟩
          | true =>
            refine iteT ⟨ρ4, η1, st4, s4, n2.kp e4.kp, ?_⟩
            have kc2 : Po Γ ρ1 H1 (Rep Γ) (((f η1 st4).bind fun v s => (lcL t cc f (wipeE η own) xs s).bind fun vs s => R.ok (v :: vs) s).bind fun vs s => K (accP ++ vs) s) Q := kc
            rw [rbind_assoc] at kc2
            revert kc2
            cases f η1 st4 with
            | stuck => exact fun p => p
            | exc _ _ _ => exact fun p => p
            | ok w st5 =>
              intro kc2 ρ5 H5 u e5 s5 r5
              have h5 : ρ5.h = D :: ρ1.h := by rw [e5.hd, h4]
              have mem5 : D ∈ ρ5.h := by rw [h5]; simp
              have hD5 : H5 D = some (.lst accV) := (e5.keep D _ hD4 (s4.hid D (by rw [h4]; simp)).2).1
              have ex5 : Ext ρ1 H1 (ρ5.with ρ1.h) H5 := Bare.ext ex4 e5
              have kc3 : Po Γ ρ1 H1 (Rep Γ) (((lcL t cc f (wipeE η own) xs st5).bind fun vs s => R.ok (w :: vs) s).bind fun vs s => K (accP ++ vs) s) Q := kc2
              rw [rbind_assoc] at kc3
              have hlen : accV.length < sizeLine := by
                obtain ⟨v', s', hm⟩ := po_is kc3
                obtain ⟨vs, s6, _, hm⟩ := bind_ok hm
                have := hK (accP ++ w :: vs) s6 v' s' hm
                rw [List.length_append, List.length_cons] at this
                rw [← hacc.length]
                exact lim_lt (by omega)
              have kcs : ∀ o, Kp ρ5 H5 ρ5 (upd H5 D o) := fun o => kp_grow mem5
              have kk := k34.trans e5.kp
              refine ⟨accV, hD5, hlen, ρ5, st5, accP ++ [w], accV ++ [u], h5, rst_grow s5 mem5, (n.kp kk).kp (kcs _), (ka.trans kk).trans (kcs _), (k.trans kk).trans (kcs _), Bare.upd ex5 hD, upd_same, ((hacc.kp kk).append (.cons r5 .nil)).kp (kcs _), ?_⟩
              have e : (fun (vs : List PV) (s : Sto) => K (accP ++ [w] ++ vs) s) = fun vs s => K (accP ++ w :: vs) s := by
                funext vs s
                rw [List.append_assoc]; rfl
              rw [e]
              exact kc3
theorem te_lc2 {it it1 : IF} {own own1 : List Nat} {t t1 : Tg} {cc cc1 : BF} {f : EF} (ht : ∀ i ∈ t.slots, i ∈ own) (ht1 : ∀ i ∈ t1.slots, i ∈ own1) {σ : L2.St} {H : Hp} {Q : VK} (h : TEf Γ (eLC2 it own t cc it1 own1 t1 cc1 f) σ H Q) :
    tLc2 (TIf Γ it) (TGf Γ t) (TTf Γ cc) (TIf Γ it1) (TGf Γ t1) (TTf Γ cc1) (TEf Γ f) own own1 σ H Q := by
  obtain ⟨ρ0, η, st0, s0, n0, p0⟩ := h
  refine ti_mono (ti_bind p0 s0 n0) fun J H1 ⟨ρ1, items, st1, e1, s1, n1, w1, p1⟩ D hD => ?_
  refine ⟨fun i m H => ∃ ρ st rest accP accV, items.length = i + rest.length ∧ items.drop i = rest ∧ m = rest.length ∧ ρ.h = D :: ρ1.h ∧ RSt Γ ρ st H ∧ REn Γ ρ H η σ ∧ Kp ρ1 H1 ρ H ∧ Ext ρ1 H1 (ρ.with ρ1.h) H ∧ H D = some (.lst accV) ∧ Reps Γ ρ H accP accV ∧
    Po Γ ρ1 H1 (Rep Γ) ((lc2L t cc it1 own1 t1 cc1 f (wipeE η own) rest st).bind fun vs s => mkLst (accP ++ vs) s) Q,
    ⟨_, ρ1.hide D, st1, items, [], [], by simp, rfl, rfl, rfl, rst_hide s1 hD, n1.kp (kp_hide hD), kp_hide hD, bare_hide hD, upd_same, .nil, p1⟩, ?_⟩
  rintro i m H2 ⟨ρ, st, rest, accP, accV, hl, hd, rfl, hh, s, n, k, ex, hDv, hacc, p⟩
  have memD : D ∈ ρ.h := by rw [hh]; simp
  have sub : ∀ a ∈ ρ1.h, a ∈ ρ.h := fun a ha => by rw [hh]; exact List.mem_cons_of_mem _ ha
  cases rest with
  | nil =>
    have := (w1 ρ st H2 k s).2
    have e : items.length = i := by simpa using hl
    rw [e] at this
    refine .inl ⟨this, ?_⟩
    simp only [lc2L, R.bind, List.append_nil] at p
    obtain ⟨v, s', hm⟩ := po_is p
    rw [hm] at p
    unfold mkLst at hm
    split at hm
    · cases hm
      refine p (ρ.with ρ1.h) H2 _ ex (rst_bare s sub) (.lst (.inl ⟨.inl hDv, fun z => ?_⟩) (hacc.kp (kp_bare sub)))
      rcases z with z | z
      · exact (s.hid D memD).2 z
      · obtain ⟨⟨u, hu⟩, _⟩ := s1.hid D z
        rw [hD] at hu; cases hu
    · cases hm
  | cons x xs =>
    have hx : items[i]? = some x := by
      have : (items.drop i)[0]? = some x := by rw [hd]; rfl
      rwa [List.getElem?_drop, Nat.add_zero] at this
    obtain ⟨go, yl⟩ := (w1 ρ st H2 k s).1 i x hx
    refine .inr ⟨go, fun H' => ∃ ρ' st' accP' accV', ρ'.h = D :: ρ1.h ∧ RSt Γ ρ' st' H' ∧ REn Γ ρ' H' η σ ∧ Kp ρ1 H1 ρ' H' ∧ Ext ρ1 H1 (ρ'.with ρ1.h) H' ∧ H' D = some (.lst accV') ∧ Reps Γ ρ' H' accP' accV' ∧
      Po Γ ρ1 H1 (Rep Γ) ((lc2L t cc it1 own1 t1 cc1 f (wipeE η own) xs st').bind fun vs s => mkLst (accP' ++ vs) s) Q, fun H' ⟨ρ', st', accP', accV', b1, b2, b3, b4, b5, b6, b7, b8⟩ => ⟨xs.length, Nat.lt_succ_self _, ρ', st', xs, accP', accV', ?_, ?_, rfl, b1, b2, b3, b4, b5, b6, b7, b8⟩, fun v H' y => ?_⟩
    · rw [hl, List.length_cons]; omega
    · have : items.drop (i + 1) = (items.drop i).drop 1 := by rw [List.drop_drop]
      rw [this, hd]; rfl
    · obtain ⟨e3, s3, r3⟩ := yl v H' y
      simp only [lc2L] at p
      split at p
      · obtain ⟨v, s', hm⟩ := po_is p
        cases hm
      · rename_i η1 hb
        refine ⟨ρ, _, x, (n.kp e3.kp).wipe own, r3, η1, hb, fun σ2 n2 sb => ⟨by rw [sb own ht, wipe_wipe], ρ, η1, st, s3, n2, ?_⟩⟩
        rw [rbind_assoc] at p
        have kc := p
        revert kc
        clear p
        cases cc η1 st with
        | stuck => exact fun p => p
        | exc _ _ _ => exact fun p => p
        | ok b st4 =>
          intro kc ρ4 H4 b' e4 s4 hb'
          cases hb'
          have h4 : ρ4.h = D :: ρ1.h := by rw [e4.hd, hh]
          have hD4 : H4 D = some (.lst accV) := (e4.keep D _ (e3.keep D _ hDv (s.hid D memD).2).1 (s.hid D memD).2).1
          have ex4 : Ext ρ1 H1 (ρ4.with ρ1.h) H4 := (Bare.ext (Bare.ext ex e3) e4)
          have k34 := e3.kp.trans e4.kp
          cases b with
          | false => exact iteF ⟨ρ4, st4, accP, accV, h4, s4, n.kp k34, k.trans k34, ex4, hD4, hacc.kp k34, kc⟩
          | true =>
            have kc2 : Po Γ ρ1 H1 (Rep Γ) (((it1 η1 st4).bind fun ys s => (lcL t1 cc1 f (wipeE η1 own1) ys s).bind fun vs s => (lc2L t cc it1 own1 t1 cc1 f (wipeE η own) xs s).bind fun ws s => R.ok (vs ++ ws) s).bind fun vs s => mkLst (accP ++ vs) s) Q := kc
            rw [rbind_assoc] at kc2
            refine iteT ⟨ρ4, η1, st4, s4, n2.kp e4.kp, ?_⟩
            revert kc2
            cases it1 η1 st4 with
            | stuck => exact fun p => p
            | exc _ _ _ => exact fun p => p
            | ok ys st5 =>
              intro kc2 ρ5 H5 J1 e5 s5 w5
              have h5 : ρ5.h = D :: ρ1.h := by rw [e5.hd, h4]
              have hD5 : H5 D = some (.lst accV) := (e5.keep D _ hD4 (s4.hid D (by rw [h4]; simp)).2).1
              have ex5 : Ext ρ1 H1 (ρ5.with ρ1.h) H5 := Bare.ext ex4 e5
              have k5 := k34.trans e5.kp
              have kc3 : Po Γ ρ1 H1 (Rep Γ) ((lcL t1 cc1 f (wipeE η1 own1) ys st5).bind fun vs s => (fun l s => (lc2L t cc it1 own1 t1 cc1 f (wipeE η own) xs s).bind fun ws s => mkLst (l ++ ws) s) (accP ++ vs) s) Q := by
                have kc3 : Po Γ ρ1 H1 (Rep Γ) (((lcL t1 cc1 f (wipeE η1 own1) ys st5).bind fun vs s => (lc2L t cc it1 own1 t1 cc1 f (wipeE η own) xs s).bind fun ws s => R.ok (vs ++ ws) s).bind fun vs s => mkLst (accP ++ vs) s) Q := kc2
                rw [rbind_assoc] at kc3
                have e : (fun (vs : List PV) (s : Sto) => ((lc2L t cc it1 own1 t1 cc1 f (wipeE η own) xs s).bind fun ws s => R.ok (vs ++ ws) s).bind fun vs s => mkLst (accP ++ vs) s) = fun vs s => (fun l s => (lc2L t cc it1 own1 t1 cc1 f (wipeE η own) xs s).bind fun ws s => mkLst (l ++ ws) s) (accP ++ vs) s := by
                  funext vs s
                  rw [rbind_assoc]
                  congr 1
                  funext ws s
                  show mkLst (accP ++ (vs ++ ws)) s = mkLst (accP ++ vs ++ ws) s
                  rw [List.append_assoc]
                rw [e] at kc3
                exact kc3
              refine lc_turns (σ := σ2) (η := η1) ht1 hD (fun l s v s' hm => ?_) (fun ρ6 st6 H6 aP aV c1 c2 c3 c4 c5 c6 c7 c8 => ⟨ρ6, st6, aP, aV, c1, c2, n.kp (k5.trans c3), c4, c5, c6, c7, c8⟩) w5 h5 s5 ((n2.kp e4.kp).kp e5.kp) (k.trans k5) ex5 hD5 (hacc.kp k5) kc3
              · obtain ⟨ws, s6, _, hm⟩ := bind_ok hm
                unfold mkLst at hm
                split at hm
                · rename_i hle
                  rw [List.length_append] at hle
                  omega
                · cases hm
theorem ok_lc2 {elt tg iter tg1 iter1 : Expr} {ifs ifs1 : List Expr} {scope : Scope} {own own1 : List Nat} {it it1 : IF} {t t1 : Tg} {cc cc1 : BF} {f : EF} (h : PE X (.ListComp elt [⟨tg, iter, ifs, 0⟩, ⟨tg1, iter1, ifs1, 0⟩] scope pos) (tLc2 (TIf Γ it) (TGf Γ t) (TTf Γ cc) (TIf Γ it1) (TGf Γ t1) (TTf Γ cc1) (TEf Γ f) own own1)) (ht : ∀ i ∈ t.slots, i ∈ own) (ht1 : ∀ i ∈ t1.slots, i ∈ own1) :
    PE X (.ListComp elt [⟨tg, iter, ifs, 0⟩, ⟨tg1, iter1, ifs1, 0⟩] scope pos) (TEf Γ (eLC2 it own t cc it1 own1 t1 cc1 f)) := pe_of h fun _ _ _ => te_lc2 ht ht1
/-! ### name op= e on numbers -/
def oAddI (a b : PV) (st : Sto) : R PV := match a, b with
  | .int i, .int j => .ok (.int (i + j)) st
  | _, _ => .stuck
theorem ipo_add : PIp X .Add (RO Γ oAddI) := by
  rintro pins s σ H x y v u Q I rx ry ⟨ρ, st, a, b, h, ha, hb, p⟩
  cases a with
  | int i =>
    cases b with
    | int j => cases ha; cases hb; exact ip_add pins s σ H _ _ v u Q I rx ry ⟨i, j, rfl, rfl, po_ok p h (.int _)⟩
    | _ => exact p.elim
  | _ => exact p.elim
def oSubI (a b : PV) (st : Sto) : R PV := match a, b with
  | .int i, .int j => .ok (.int (i - j)) st
  | _, _ => .stuck
theorem ipo_sub : PIp X .Sub (RO Γ oSubI) := by
  rintro pins s σ H x y v u Q I rx ry ⟨ρ, st, a, b, h, ha, hb, p⟩
  cases a with
  | int i =>
    cases b with
    | int j => cases ha; cases hb; exact ip_sub pins s σ H _ _ v u Q I rx ry ⟨i, j, rfl, rfl, po_ok p h (.int _)⟩
    | _ => exact p.elim
  | _ => exact p.elim
end
end Pl

set_option Elab.async false
set_option linter.all false
set_option maxRecDepth 100000
/-! Pl, part Z: going through any value; for over a list of the store. -/
namespace Pl
open PySem PySem.Spec PyProof.Rows L2
section
variable {Γ : Ct} {X : Cx} {ρ : Rho} {H : Hp} {st : Sto} {pos : Pos}
/-- the items of a value that is gone through -/
def iterP : PV → Option (List PV)
  | .tup xs => some xs
  | .lst xs => some xs
  | .str c => some (c.map fun x => .str [x])
  | .dct kvs => some (kvs.map (·.1))
  | _ => none
def iAny (f : EF) : IF := fun η st => (f η st).bind fun v s => match iterP v with
  | some xs => .ok xs s
  | none => .stuck
theorem walk_S {cs : List Nat} : WalkJ Γ ρ H (cs.map fun x => .str [x]) (Its (tx cs)) := fun ρ' st' H' e s => by
  refine ⟨fun i y hy => ?_, ?_⟩
  · rw [List.getElem?_map] at hy
    cases hc : cs[i]? with
    | none => rw [hc] at hy; cases hy
    | some z =>
      rw [hc] at hy
      cases hy
      have hl : i < (tx cs).cps.size := by
        have := (List.getElem?_eq_some_iff.mp hc).1
        simpa [tx] using this
      refine ⟨hl, fun v H'' y => ?_⟩
      obtain ⟨rfl, w, hw, rfl⟩ := y
      have hz : (tx cs).cps[i]? = some z := by simpa [tx] using hc
      rw [hz] at hw
      cases hw
      exact ⟨Ext.refl _ _, s, rep_str rfl⟩
  · show (tx cs).cps.size ≤ _
    rw [List.length_map]
    simp [tx]
theorem pi_any (c : Cc Γ X) {tg l : Expr} {f : EF} (hl : PE X l (TEf Γ f)) : PI X tg l (TIf Γ (iAny f)) := by
  refine ⟨fun pins s σ H R' I ⟨ρ, η, st, h, n, p⟩ => ?_⟩
  refine thn (hl.run pins s σ H _ I (te_bind p h n)) fun v s1 ⟨x, H1, I1, r1, ρ1, a, st1, e1, h1, n1, q1, p1⟩ => ?_
  cases q1 with
  | tup t rr =>
    cases r1
    have t' := t.sq
    rw [← c.K] at t'
    obtain ⟨its, rv, pp, hz⟩ := I1.tuple t'
    exact wpAny_pyIter_tuple (show s1.heap.IsTuple _ its.toArray from pp) (pi_one (tk := s1.toks) I1 _ (turn_tuple _ _) ⟨_, Heap.get?_push_size _ rfl, rfl, rfl⟩ (po_ok p1 h1 (walk_of' (walk_tup (K := X.K)) rr fun ρ' H' e => by rw [c.K]; exact t.ext e)))
  | lst t rr =>
    cases r1
    have t' := t.sq
    rw [← c.K] at t'
    obtain ⟨its, rv, pp, hz⟩ := I1.list t'
    exact wpAny_pyIter_list pp.isList (pi_one (tk := s1.toks) I1 _ (turn_list _ _) ⟨_, Heap.get?_push_size _ rfl, rfl, rfl⟩ (po_ok p1 h1 (walk_of' (walk_list (K := X.K)) rr fun ρ' H' e => by rw [c.K]; exact t.ext e)))
  | str cs =>
    obtain ⟨t, rfl⟩ := r1
    have w := po_ok p1 h1 walk_S
    cases ha : (tx cs).cps.all (· < 128)
    · exact wpAny_pyIter_wide ha (pi_one (tk := s1.toks) I1 _ (turn_str _ (tx cs) t "str_iterator" (.inr rfl)) ⟨_, Heap.get?_push_size _ rfl, rfl, rfl⟩ w)
    · exact wpAny_pyIter_ascii ha (pi_one (tk := s1.toks) I1 _ (turn_str _ (tx cs) t "str_ascii_iterator" (.inl rfl)) ⟨_, Heap.get?_push_size _ rfl, rfl, rfl⟩ w)
  | dct t n rd =>
    cases r1
    obtain ⟨ents, ep, hs, hgd, hx, hdt, raw, hsz, hz, _⟩ := frzD I1 t
    exact iter_keys hs hgd hx hdt (pi_one (tk := s1.toks) I1 _ (turn_DK _ hdt hsz) ⟨_, Heap.get?_push_size _ rfl, rfl, by rw [hsz]; rfl⟩ (po_ok p1 h1 (walk_DK t n rd)))
  | _ => exact p1.elim
/-! ### for over a list of the store: its items as they stand at each turn -/
def forLoc (n : Nat) (t : Tg) (F : SF) : Nat → Nat → SF
  | 0, _ => fun _ _ => .stuck
  | k + 1, i => fun η st => match st[n]? with
    | some (.lst xs) => match xs[i]? with
      | none => .nx η st
      | some x => match t.bind x η with
        | none => .stuck
        | some η1 => match F η1 st with
          | .nx η2 st2 => forLoc n t F k (i + 1) η2 st2
          | .ct η2 st2 => forLoc n t F k (i + 1) η2 st2
          | .bk η2 st2 => .nx η2 st2
          | r => r
    | _ => .stuck
def sForL (k : Nat) (f : EF) (t : Tg) (F : SF) : SF := fun η st => (f η st).toS η fun v s => match v with
  | .loc n => forLoc n t F k 0 η s
  | _ => .stuck
theorem ts_forL (c : Cc Γ X) {k : Nat} {f : EF} {t : Tg} {F : SF} {D : Ends} {σ : L2.St} {H : Hp} (h : TSf Γ (sForL k f t F) D σ H) : tFor (iList X.K (TEf Γ f)) (TGf Γ t) (TSf Γ F) D σ H := by
  obtain ⟨ρ, η, st, s, n, p⟩ := h
  refine te_mono (ts_e p s n) fun x H1 ⟨ρ1, v, st1, e1, s1, n1, r1, p1⟩ => ?_
  cases v with
  | loc m =>
    -- the list's address
    have here : ∀ {ρ : Rho} {st : Sto} {H : Hp} {xs : List PV} {a : Addr}, RSt Γ ρ st H → st[m]? = some (.lst xs) → ρ.l[m]? = some a → ∃ vs, SqL X.K H a vs ∧ Reps Γ ρ H xs vs := fun {ρ st H xs a} s hn hl => by
      obtain ⟨b, vs, e, hH, rr, hl'⟩ := s.isl hn (.loc hl)
      cases e
      exact ⟨vs, .inl (.inl hH), rr⟩
    obtain ⟨a, rfl, hl⟩ : ∃ a, x = .ref a ∧ ρ1.l[m]? = some a := by
      cases r1 with
      | loc hl => exact ⟨_, rfl, hl⟩
    · have hk : ∃ xs, st1[m]? = some (.lst xs) := by
        dsimp only at p1
        cases k with
        | zero => exact p1.elim
        | succ k =>
          unfold forLoc at p1
          split at p1
          · exact ⟨_, by assumption⟩
          · exact p1.elim
      obtain ⟨xs0, hx0⟩ := hk
      obtain ⟨vs0, q0, _⟩ := here s1 hx0 hl
      refine ⟨a, rfl, ⟨vs0, q0⟩, fun i k σ H => ∃ ρ η st, ρ.l[m]? = some a ∧ RSt Γ ρ st H ∧ REn Γ ρ H η σ ∧ PoS Γ ρ H (forLoc m t F k i η st) D, ⟨k, ρ1, η, st1, hl, s1, n1, p1⟩, ?_⟩
      rintro i k σ2 H2 ⟨ρ2, η2, st2, hl2, s2, n2, p2⟩
      cases k with
      | zero => exact p2.elim
      | succ k =>
        unfold forLoc at p2
        split at p2
        · rename_i xs hn
          obtain ⟨vs, hq, rr⟩ := here s2 hn hl2
          cases hx : xs[i]? with
          | none =>
            rw [hx] at p2
            refine .inl ⟨⟨vs, hq, ?_⟩, pos_nx p2 s2 n2⟩
            rw [← rr.length]
            exact List.getElem?_eq_none_iff.mp hx
          | some y =>
            rw [hx] at p2
            obtain ⟨v, hv, rv⟩ := rr.get hx
            refine .inr ⟨⟨vs, v, hq, hv⟩, fun σ' H' => ∃ ρ3 η3 st3, ρ3.l[m]? = some a ∧ RSt Γ ρ3 st3 H' ∧ REn Γ ρ3 H' η3 σ' ∧ PoS Γ ρ3 H' (forLoc m t F k (i + 1) η3 st3) D, fun σ' H' h => ⟨k, Nat.lt_succ_self _, h⟩, fun u H' yy => ?_⟩
            obtain ⟨rfl, hu⟩ := yy
            have e := hu _ hq
            rw [hv] at e
            cases e
            dsimp only at p2
            split at p2
            · exact p2.elim
            · rename_i η1 hb
              refine ⟨ρ2, η2, y, n2, rv, η1, hb, fun σ' n4 _ => ⟨ρ2, η1, st2, s2, n4, ?_⟩⟩
              revert p2
              cases F η1 st2 with
              | stuck => exact fun p => p
              | exc _ _ _ _ => exact fun p => p
              | nx η5 st5 => exact fun p ρ5 H5 σ5 e5 s5 n5 => ⟨ρ5, η5, st5, e5.get hl2, s5, n5, p.ext e5⟩
              | ct η5 st5 => exact fun p ρ5 H5 σ5 e5 s5 n5 => ⟨ρ5, η5, st5, e5.get hl2, s5, n5, p.ext e5⟩
              | bk η5 st5 => exact fun p => p
              | rt v st5 => exact fun p => p
        · exact p2.elim
  | _ => exact p1.elim
theorem ok_forL (c : Cc Γ X) {k : Nat} {tg iter : Expr} {body : List Stmt} {f : EF} {t : Tg} {F : SF} (hp : PassesOwn (model X.prog X.w) X.A X.env X.xe) (hi : PE X iter (TEf Γ f)) (hg : PG X tg (TGf Γ t)) (hb : PSs X body (TSf Γ F))
    (hs : ∀ x, foldedSetIterable iter X.env x = pure x := by intro _; rfl) : PS X (.For tg iter body [] pos) (TSf Γ (sForL k f t F)) := ps_of (ps_for hp c.calm (pi_list hi) hg hb hs) fun _ _ _ h => ts_forL c h
end
end Pl

set_option Elab.async false
set_option linter.all false
/-! PlEnd: the law's own head: what the top hands the law's def, against the plain function. -/
namespace Pl
open PySem PySem.Spec PyProof.Rows L2
/-- the law, plainly -/
def TrueOn (n : Nat) (F : List PV → Sto → R PV) : Prop := ∀ ns : List Int, ns.length ≤ n → ∃ s, F [.lst (ns.map PV.int)] [] = .ok (.bl true) s
def spTop (n : Nat) (K : PySem.W.Frag) : Sp := fun vs H Q _ => ∃ (a : Addr) (ns : List Int), vs = [.ref a] ∧ SqL K H a (ns.map V.int) ∧ ns.length ≤ n ∧ ∀ H', Q (.bl true) H'
theorem reps_ints {Γ : Ct} {ρ : Rho} {H : Hp} : ∀ ns : List Int, Reps Γ ρ H (ns.map PV.int) (ns.map V.int)
  | [] => .nil
  | i :: r => .cons (.int i) (reps_ints r)
theorem top_sp {Γ : Ct} {n : Nat} {F : List PV → Sto → R PV} (hF : TrueOn n F) : ∀ (vs : List V) (H : Hp) (Q : VK) (E : XK), spTop n Γ.K vs H Q E → spF Γ F vs H Q E := by
  rintro vs H Q E ⟨a, ns, rfl, hS, hl, q⟩
  obtain ⟨s, e⟩ := hF ns hl
  refine ⟨⟨[], []⟩, [], [.lst (ns.map PV.int)], ⟨rfl, List.nodup_nil, fun i o a h => by simp at h, fun a h => by cases h⟩, .cons (.lst ?_ (reps_ints ns)) .nil, ?_⟩
  · rcases hS with hS | hS
    · exact .inl ⟨hS, fun m => by rcases m with m | m <;> cases m⟩
    · exact .inr hS
  · rw [e]
    intro ρ' H' b _ _ r
    cases r
    exact q _
end Pl

set_option Elab.async false
set_option linter.all false
/-! PlFr: a call that is handed nothing of the store, and hands out nothing of it, may be told in an empty store. -/
namespace Pl
open PySem PySem.Spec PyProof.Rows L2
mutual
def noLoc : PV → Bool
  | .non => true
  | .bl _ => true
  | .int _ => true
  | .str _ => true
  | .tup xs => noLocs xs
  | .lst xs => noLocs xs
  | .dct kvs => noLocD kvs
  | .loc _ => false
  | .ty _ => true
def noLocs : List PV → Bool
  | [] => true
  | x :: xs => noLoc x && noLocs xs
def noLocD : List (PV × PV) → Bool
  | [] => true
  | p :: xs => noLoc p.1 && (noLoc p.2 && noLocD xs)
end
section
variable {Γ : Ct} {ρ ρ1 : Rho} {H : Hp}
theorem TupAt.sub {a : Addr} {vs : List V} (hs : ∀ a, a ∈ ρ1 → a ∈ ρ) (h : TupAt Γ ρ H a vs) : TupAt Γ ρ1 H a vs := by
  rcases h with ⟨h, n⟩ | h
  · exact .inl ⟨h, fun m => n (hs a m)⟩
  · exact .inr h
theorem LstAt.sub {a : Addr} {vs : List V} (hs : ∀ a, a ∈ ρ1 → a ∈ ρ) (h : LstAt Γ ρ H a vs) : LstAt Γ ρ1 H a vs := by
  rcases h with ⟨h, n⟩ | h
  · exact .inl ⟨h, fun m => n (hs a m)⟩
  · exact .inr h
mutual
theorem Rep.sub (hs : ∀ a, a ∈ ρ1 → a ∈ ρ) : ∀ {x : PV} {v : V}, noLoc x = true → Rep Γ ρ H x v → Rep Γ ρ1 H x v
  | _, _, _, .non => .non
  | _, _, _, .bl b => .bl b
  | _, _, _, .int i => .int i
  | _, _, _, .str c => .str c
  | _, _, n, .tup h r => .tup (h.sub hs) (Reps.sub hs (by simpa [noLoc] using n) r)
  | _, _, n, .lst h r => .lst (h.sub hs) (Reps.sub hs (by simpa [noLoc] using n) r)
  | _, _, n, .dct h m r => .dct h (fun z => m (hs _ z)) (RepD.sub hs (by simpa [noLoc] using n) r)
  | _, _, n, .loc h => by simp [noLoc] at n
  | _, _, _, .ty n => .ty n
theorem Reps.sub (hs : ∀ a, a ∈ ρ1 → a ∈ ρ) : ∀ {x : List PV} {v : List V}, noLocs x = true → Reps Γ ρ H x v → Reps Γ ρ1 H x v
  | _, _, _, .nil => .nil
  | _, _, n, .cons h r => .cons (Rep.sub hs (by simp [noLocs] at n; exact n.1) h) (Reps.sub hs (by simp [noLocs] at n; exact n.2) r)
theorem RepD.sub (hs : ∀ a, a ∈ ρ1 → a ∈ ρ) : ∀ {x : List (PV × PV)} {v : List (V × NestedKey × V)}, noLocD x = true → RepD Γ ρ H x v → RepD Γ ρ1 H x v
  | _, _, _, .nil => .nil
  | _, _, n, .cons h k r t => .cons (Rep.sub hs (by simp [noLocD] at n; exact n.1) h) k (Rep.sub hs (by simp [noLocD] at n; exact n.2.1) r) (RepD.sub hs (by simp [noLocD] at n; exact n.2.2) t)
end
theorem RSt.keepAll {st : Sto} {H' : Hp} (k : ∀ a o, H a = some o → H' a = some o) (s : RSt Γ ρ st H) : RSt Γ ρ st H' := by
  have e : Kp ρ H ρ H' := ⟨fun _ _ h => h, fun a u h n => by
    refine ⟨?_, n⟩
    rcases h with h | ⟨o, h⟩
    · exact .inl (k a _ h)
    · exact .inr ⟨o, k a _ h⟩⟩
  refine ⟨s.len, s.nd, fun i o a h1 h2 => ?_, fun a m => ?_⟩
  · cases s.at' i o a h1 h2 with
    | lst h r => exact .lst (k _ _ h) (r.kp e)
    | dct h r => exact .dct (k _ _ h) (r.kp e)
    | frz h r => exact .frz (k _ _ h) (r.kp e)
    | ins h r => exact .ins (k _ _ h) (r.kp e)
  · obtain ⟨⟨o, h⟩, n⟩ := s.hid a m
    exact ⟨⟨o, k a o h⟩, n⟩
end
/-- told in an empty store -/
def frm (o : List PV → Sto → R PV) (as : List PV) (st : Sto) : R PV := match noLocs as with
  | true => match o as [] with
    | .ok v _ => match noLoc v with
      | true => .ok v st
      | false => .stuck
    | _ => .stuck
  | false => .stuck
theorem frm_ok {o : List PV → Sto → R PV} {as : List PV} {v : PV} {s : Sto} (h : o as [] = .ok v s) (ha : noLocs as = true) (hv : noLoc v = true) (st : Sto) : frm o as st = .ok v st := by
  simp [frm, ha, h, hv]
theorem frm_sp {Γ : Ct} {o : List PV → Sto → R PV} : ∀ (vs : List V) (H : Hp) (Q : VK) (E : XK), spF Γ (frm o) vs H Q E → spF Γ o vs H Q E := by
  rintro vs H Q E ⟨ρ, st, as, s, r, p⟩
  unfold frm at p
  cases ha : noLocs as with
  | false => rw [ha] at p; exact p.elim
  | true =>
    rw [ha] at p
    cases ho : o as [] with
    | stuck => rw [ho] at p; exact p.elim
    | exc c fs s => rw [ho] at p; exact p.elim
    | ok v s1 =>
      rw [ho] at p
      cases hv : noLoc v with
      | false => simp only [hv] at p; exact p.elim
      | true =>
        simp only [hv] at p
        have hm : ∀ a, a ∈ (⟨[], ρ.l ++ ρ.h⟩ : Rho) → a ∈ ρ := fun a m => by
          rcases m with m | m
          · cases m
          · exact List.mem_append.mp m
        refine ⟨⟨[], ρ.l ++ ρ.h⟩, [], as, ⟨rfl, List.nodup_nil, fun i o a h => by simp at h, fun a m => ⟨?_, by simp⟩⟩, r.sub hm ha, ?_⟩
        · rcases List.mem_append.mp m with m | m
          · obtain ⟨i, hi⟩ := List.getElem?_of_mem m
            have hl : i < st.length := by
              rw [← s.len]
              exact (List.getElem?_eq_some_iff.mp hi).1
            have hq := s.at' i st[i] a (List.getElem?_eq_getElem hl) hi
            generalize st[i] = so at hq
            cases hq with
            | lst h r => exact ⟨_, h⟩
            | dct h r => exact ⟨_, h⟩
            | frz h r => exact ⟨_, h⟩
            | ins h r => exact ⟨_, h⟩
          · exact (s.hid a m).1
        · rw [ho]
          intro ρ' H' b e s' rb
          have k : ∀ a o, H a = some o → H' a = some o := fun a o h => (e.keep a o h (by simp)).1
          refine p ρ H' b ⟨⟨[], by simp⟩, rfl, fun a o h n => ⟨k a o h, n⟩⟩ (s.keepAll k) (rb.sub (fun a m => ?_) hv)
          refine .inr ?_
          rw [e.hd]
          exact List.mem_append.mpr m
end Pl

set_option Elab.async false
set_option linter.all false
/-! PlEv: reckoning with the plain functions. -/
namespace Pl
mutual
def PV.same : PV → PV → Bool
  | .non, y => match y with
    | .non => true
    | _ => false
  | .bl a, y => match y with
    | .bl b => a == b
    | _ => false
  | .int a, y => match y with
    | .int b => a == b
    | _ => false
  | .str a, y => match y with
    | .str b => a == b
    | _ => false
  | .tup xs, y => match y with
    | .tup ys => PV.sames xs ys
    | _ => false
  | .lst xs, y => match y with
    | .lst ys => PV.sames xs ys
    | _ => false
  | .dct xs, y => match y with
    | .dct ys => PV.sameD xs ys
    | _ => false
  | .loc a, y => match y with
    | .loc b => a == b
    | _ => false
  | .ty a, y => match y with
    | .ty b => a == b
    | _ => false
def PV.sames : List PV → List PV → Bool
  | [], ys => match ys with
    | [] => true
    | _ => false
  | x :: xs, ys => match ys with
    | [] => false
    | y :: ys => PV.same x y && PV.sames xs ys
def PV.sameD : List (PV × PV) → List (PV × PV) → Bool
  | [], ys => match ys with
    | [] => true
    | _ => false
  | x :: xs, ys => match ys with
    | [] => false
    | y :: ys => PV.same x.1 y.1 && (PV.same x.2 y.2 && PV.sameD xs ys)
end
mutual
theorem same_eq : ∀ (x y : PV), PV.same x y = true → x = y
  | .non, y, h => by cases y <;> simp [PV.same] at h ⊢
  | .bl a, y, h => by cases y <;> simp [PV.same] at h ⊢; exact h
  | .int a, y, h => by cases y <;> simp [PV.same] at h ⊢; exact h
  | .str a, y, h => by cases y <;> simp [PV.same] at h ⊢; exact h
  | .tup xs, y, h => by
    cases y <;> simp [PV.same] at h ⊢
    exact sames_eq xs _ h
  | .lst xs, y, h => by
    cases y <;> simp [PV.same] at h ⊢
    exact sames_eq xs _ h
  | .dct xs, y, h => by
    cases y <;> simp [PV.same] at h ⊢
    exact sameD_eq xs _ h
  | .loc a, y, h => by cases y <;> simp [PV.same] at h ⊢; exact h
  | .ty a, y, h => by cases y <;> simp [PV.same] at h ⊢; exact h
theorem sames_eq : ∀ (x y : List PV), PV.sames x y = true → x = y
  | [], y, h => by cases y <;> simp [PV.sames] at h ⊢
  | x :: xs, y, h => by
    cases y with
    | nil => simp [PV.sames] at h
    | cons y ys =>
      simp only [PV.sames, Bool.and_eq_true] at h
      rw [same_eq x y h.1, sames_eq xs ys h.2]
theorem sameD_eq : ∀ (x y : List (PV × PV)), PV.sameD x y = true → x = y
  | [], y, h => by cases y <;> simp [PV.sameD] at h ⊢
  | (a, b) :: xs, y, h => by
    cases y with
    | nil => simp [PV.sameD] at h
    | cons y ys =>
      obtain ⟨c, d⟩ := y
      simp only [PV.sameD, Bool.and_eq_true] at h
      rw [same_eq a c h.1, same_eq b d h.2.1, sameD_eq xs ys h.2.2]
end
/-- it answers v -/
def R.is (r : R PV) (v : PV) : Bool := match r with
  | .ok w _ => PV.same w v
  | _ => false
theorem R.is_ok {r : R PV} {v : PV} (h : r.is v = true) : ∃ s, r = .ok v s := by
  cases r with
  | ok w s => exact ⟨s, by rw [same_eq w v h]⟩
  | stuck => cases h
  | exc c fs s => cases h
theorem frm_is {o : List PV → Sto → R PV} {as : List PV} {v : PV} (h : (o as []).is v = true) (ha : noLocs as = true) (hv : noLoc v = true) (st : Sto) : frm o as st = .ok v st := by
  obtain ⟨s, e⟩ := R.is_ok h
  exact frm_ok e ha hv st
theorem noLocs_str : ∀ l : List (List Nat), noLocs (l.map .str) = true
  | [] => rfl
  | x :: l => by simp [noLocs, noLoc, noLocs_str l]
theorem noLocs_int : ∀ l : List Int, noLocs (l.map .int) = true
  | [] => rfl
  | x :: l => by simp [noLocs, noLoc, noLocs_int l]
/-! ### comprehensions, loops -/
/-- a filter and a map, where the store stays -/
theorem lcL_pure {t : Tg} {c : BF} {f : EF} {η : En} {st : Sto} (b : PV → En) (p : PV → Bool) (g : PV → PV) : ∀ xs : List PV, (∀ x ∈ xs, t.bind x η = some (b x) ∧ c (b x) st = .ok (p x) st ∧ (p x = true → f (b x) st = .ok (g x) st)) → lcL t c f η xs st = .ok ((xs.filter p).map g) st
  | [], _ => rfl
  | x :: xs, h => by
    obtain ⟨h1, h2, h3⟩ := h x (by simp)
    have ih := lcL_pure b p g xs fun y hy => h y (by simp [hy])
    cases hp : p x with
    | true => simp [lcL, h1, h2, hp, h3 hp, R.bind, ih]
    | false => simp [lcL, h1, h2, hp, R.bind, ih]
/-- what all elements are, where the store goes on -/
theorem lcL_inv {t : Tg} {f : EF} {η : En} {I : Sto → Prop} {P : PV → Prop} : ∀ (xs : List PV), (∀ x ∈ xs, ∀ st, I st → ∃ η1 v st', t.bind x η = some η1 ∧ f η1 st = .ok v st' ∧ P v ∧ I st') → ∀ st, I st → ∃ vs st', lcL t bYes f η xs st = .ok vs st' ∧ vs.length = xs.length ∧ (∀ v ∈ vs, P v) ∧ I st'
  | [], _, st, i => ⟨[], st, rfl, rfl, by simp, i⟩
  | x :: xs, h, st, i => by
    obtain ⟨η1, v, st1, h1, h2, h3, i1⟩ := h x (by simp) st i
    obtain ⟨vs, st2, h4, h5, h6, i2⟩ := lcL_inv xs (fun y hy => h y (by simp [hy])) st1 i1
    refine ⟨v :: vs, st2, by simp [lcL, h1, bYes, h2, R.bind, h4], by simp [h5], ?_, i2⟩
    intro w hw
    rcases List.mem_cons.mp hw with rfl | hw
    · exact h3
    · exact h6 w hw
/-- a loop that runs to its end -/
theorem forL_inv {t : Tg} {F : SF} (J : List PV → En → Sto → Prop) (hs : ∀ x xs η st, J (x :: xs) η st → ∃ η1 η2 st2, t.bind x η = some η1 ∧ F η1 st = .nx η2 st2 ∧ J xs η2 st2) : ∀ xs η st, J xs η st → ∃ η' st', forL t F xs η st = .nx η' st' ∧ J [] η' st'
  | [], η, st, j => ⟨η, st, rfl, j⟩
  | x :: xs, η, st, j => by
    obtain ⟨η1, η2, st2, h1, h2, j2⟩ := hs x xs η st j
    obtain ⟨η', st', h3, j3⟩ := forL_inv J hs xs η2 st2 j2
    exact ⟨η', st', by simp [forL, h1, h2, h3], j3⟩
/-! ### values, without the kernel's reckoning of bounds -/
theorem iR1_at {f : AF} {η : En} {st s : Sto} {j : Int} (h : f η st = .ok [.int j] s) (l : rgOk j = true) : iR1 f η st = .ok (rangeL 0 j.toNat) s := by
  unfold iR1
  rw [h]
  show (if rgOk j = true then _ else _) = _
  rw [if_pos l]
theorem mkLst_at {xs : List PV} {st : Sto} (h : xs.length ≤ LIM) : mkLst xs st = .ok (.lst xs) st := by
  unfold mkLst
  rw [if_pos h]
theorem mkTup_at {xs : List PV} {st : Sto} (h : xs.length ≤ LIM) : mkTup xs st = .ok (.tup xs) st := by
  unfold mkTup
  rw [if_pos h]
theorem eLC_at {it : IF} {own : List Nat} {t : Tg} {c : BF} {f : EF} {η : En} {st s s' : Sto} {items vs : List PV} (h1 : it η st = .ok items s) (h2 : lcL t c f (wipeE η own) items s = .ok vs s') (h3 : vs.length ≤ LIM) : eLC it own t c f η st = .ok (.lst vs) s' := by
  unfold eLC
  rw [h1]
  show (lcL t c f (wipeE η own) items s).bind mkLst = _
  rw [h2]
  exact mkLst_at h3
theorem eA1_at {o : PV → Sto → R PV} {f : EF} {η : En} {st s : Sto} {v : PV} (h : f η st = .ok v s) : eA (o1 o) (aCons f aNil) η st = o v s := by
  unfold eA aCons aNil
  rw [h]
  rfl
theorem eB_at {o : PV → PV → Sto → R PV} {f g : EF} {η : En} {st s s' : Sto} {v u : PV} (h : f η st = .ok v s) (k : g η s = .ok u s') : eB o f g η st = o v u s' := by
  unfold eB
  rw [h]
  show ((g η s).bind _) = _
  rw [k]
  rfl
theorem sRet_at {f : EF} {η : En} {st s : Sto} {v : PV} (h : f η st = .ok v s) : sRet f η st = .rt v s := by
  unfold sRet
  rw [h]
  rfl
theorem sSet_at {i : Nat} {f : EF} {η : En} {st s : Sto} {v : PV} (h : f η st = .ok v s) : sSet i f η st = .nx (η.set i (some v)) s := by
  unfold sSet
  rw [h]
  rfl
theorem bV_at {f : EF} {η : En} {st s : Sto} {b : Bool} (h : f η st = .ok (.bl b) s) : bV f η st = .ok b s := by
  unfold bV
  rw [h]
  rfl
theorem sIf_f {c : BF} {F G : SF} {η : En} {st s : Sto} (h : c η st = .ok false s) : sIf c F G η st = G η s := by
  unfold sIf
  rw [h]
  rfl
theorem sIf_t {c : BF} {F G : SF} {η : En} {st s : Sto} (h : c η st = .ok true s) : sIf c F G η st = F η s := by
  unfold sIf
  rw [h]
  rfl
theorem sSeq_at {f g : SF} {η η' : En} {st s : Sto} (h : f η st = .nx η' s) : sSeq f g η st = g η' s := by
  unfold sSeq
  rw [h]
theorem sSeq_rt {f g : SF} {η : En} {st s : Sto} {v : PV} (h : f η st = .rt v s) : sSeq f g η st = .rt v s := by
  unfold sSeq
  rw [h]
theorem bOr_f {f g : BF} {η : En} {st s s' : Sto} (h : f η st = .ok false s) (k : g η s = .ok false s') : bOr f g η st = .ok false s' := by
  unfold bOr
  rw [h]
  exact k
theorem bAnd_f {f g : BF} {η : En} {st s : Sto} (h : f η st = .ok false s) : bAnd f g η st = .ok false s := by
  unfold bAnd
  rw [h]
  rfl
theorem bAnd_t {f g : BF} {η : En} {st s : Sto} {r : R Bool} (h : f η st = .ok true s) (k : g η s = r) : bAnd f g η st = r := by
  unfold bAnd
  rw [h]
  exact k
theorem sFor_at {it : IF} {t : Tg} {F : SF} {η : En} {st s : Sto} {items : List PV} (h : it η st = .ok items s) : sFor it t F η st = forL t F items η s := by
  unfold sFor
  rw [h]
  rfl
theorem aNil_at {η : En} {st : Sto} : aNil η st = .ok [] st := rfl
theorem aCons_at {f : EF} {g : AF} {η : En} {st s s' : Sto} {v : PV} {vs : List PV} (h : f η st = .ok v s) (k : g η s = .ok vs s') : aCons f g η st = .ok (v :: vs) s' := by
  unfold aCons
  rw [h]
  show ((g η s).bind _) = _
  rw [k]
  rfl
theorem eA_at {o : List PV → Sto → R PV} {f : AF} {η : En} {st s : Sto} {vs : List PV} (h : f η st = .ok vs s) : eA o f η st = o vs s := by
  unfold eA
  rw [h]
  rfl
end Pl

set_option Elab.async false
set_option linter.all false
set_option maxRecDepth 100000
/-! law_k44_whole_runs_tie: the law's functions, plainly. -/
namespace K44
open Pl

/-- return script[k] -/
def S2__law_cell_at : SF :=
 (sRet (eB oIxD (eVar 0) (eVar 1)))
/-- if k < len(script): -/
def S1__law_cell_at : SF :=
 (sIf (bV (eB (oLt (fun i j => decide (i < j)) fun x y => decide (x < y)) (eVar 1) (eA (o1 gLenD) (aCons (eVar 0) aNil))))
 S2__law_cell_at
 sNil)
/-- return 0 -/
def S3__law_cell_at : SF :=
 (sRet (eC (.int 0)))
/-- slots: 0 script, 1 k -/
def B__law_cell_at : SF :=
 (sSeq S1__law_cell_at S3__law_cell_at)
def F__law_cell_at : List PV → Sto → R PV := fnOf 2 2 B__law_cell_at

/-- primes = (1000003, 1000033, 1000037, 1000039, 1000081, 1000099, 1000117, 1000121, 1000133, 1000151, 1000159, 1000171, 1000183, 1000187, 1000193, 1000199) -/
def S1__law_draw : SF :=
 (sSet 3 (eA mkTup (aCons (eC (.int 1000003)) (aCons (eC (.int 1000033)) (aCons (eC (.int 1000037)) (aCons (eC (.int 1000039)) (aCons (eC (.int 1000081)) (aCons (eC (.int 1000099)) (aCons (eC (.int 1000117)) (aCons (eC (.int 1000121)) (aCons (eC (.int 1000133)) (aCons (eC (.int 1000151)) (aCons (eC (.int 1000159)) (aCons (eC (.int 1000171)) (aCons (eC (.int 1000183)) (aCons (eC (.int 1000187)) (aCons (eC (.int 1000193)) (aCons (eC (.int 1000199)) aNil))))))))))))))))))
/-- return int(cell * 48271 + k * 69621) % primes[int(k) % 16] % bound -/
def S2__law_draw : SF :=
 (sRet (eB oMod (eB oMod (eA (o1 gInt) (aCons (eB oAdd (eB oMul (eVar 0) (eC (.int 48271))) (eB oMul (eVar 1) (eC (.int 69621)))) aNil)) (eB oIxD (eVar 3) (eB oMod (eA (o1 gInt) (aCons (eVar 1) aNil)) (eC (.int 16))))) (eVar 2)))
/-- slots: 0 cell, 1 k, 2 bound, 3 primes -/
def B__law_draw : SF :=
 (sSeq S1__law_draw S2__law_draw)
def F__law_draw : List PV → Sto → R PV := fnOf 3 4 B__law_draw

/-- scale = 1 -/
def S1__law_number : SF :=
 (sSet 3 (eC (.int 1)))
/-- scale = scale * 1009 -/
def S3__law_number : SF :=
 (sSet 3 (eB oMul (eVar 3) (eC (.int 1009))))
/-- for lap in range(int(k) % 24): -/
def S2__law_number : SF :=
 (sFor (iR1 (aCons (eB oMod (eA (o1 gInt) (aCons (eVar 1) aNil)) (eC (.int 24))) aNil)) (.nm 4)
 S3__law_number)
/-- remains = (cell - 10 ** 18) // scale -/
def S4__law_number : SF :=
 (sSet 5 (eB oDiv (eB oSub (eVar 0) (eB oPow (eC (.int 10)) (eC (.int 18)))) (eVar 3)))
/-- return int(remains) % 1009 % bound -/
def S6__law_number : SF :=
 (sRet (eB oMod (eB oMod (eA (o1 gInt) (aCons (eVar 5) aNil)) (eC (.int 1009))) (eVar 2)))
/-- if remains > 0: -/
def S5__law_number : SF :=
 (sIf (bV (eB (oI fun i j => decide (j < i)) (eVar 5) (eC (.int 0))))
 S6__law_number
 sNil)
/-- small = int(cell) % 1000003 -/
def S7__law_number : SF :=
 (sSet 6 (eB oMod (eA (o1 gInt) (aCons (eVar 0) aNil)) (eC (.int 1000003))))
/-- return _law_draw((small + 977 * k) * (small + 31 * k + 5), int(k) % 9 + 1, 999983) % bound -/
def S8__law_number : SF :=
 (sRet (eB oMod (eA F__law_draw (aCons (eB oMul (eB oAdd (eVar 6) (eB oMul (eC (.int 977)) (eVar 1))) (eB oAdd (eB oAdd (eVar 6) (eB oMul (eC (.int 31)) (eVar 1))) (eC (.int 5)))) (aCons (eB oAdd (eB oMod (eA (o1 gInt) (aCons (eVar 1) aNil)) (eC (.int 9))) (eC (.int 1))) (aCons (eC (.int 999983)) aNil)))) (eVar 2)))
/-- slots: 0 cell, 1 k, 2 bound, 3 scale, 4 lap, 5 remains, 6 small -/
def B__law_number : SF :=
 (sSeq S1__law_number (sSeq S2__law_number (sSeq S4__law_number (sSeq S5__law_number (sSeq S7__law_number S8__law_number)))))
def F__law_number : List PV → Sto → R PV := fnOf 3 7 B__law_number

/-- draw[2] = draw[2] + 1 -/
def S1__law_next : SF :=
 (sPut (eB oAdd (eB oIxD (eVar 0) (eC (.int 2))) (eC (.int 1))) (eVar 0) (eC (.int 2)))
/-- at = draw[2] // 12 -/
def S2__law_next : SF :=
 (sSet 2 (eB oDiv (eB oIxD (eVar 0) (eC (.int 2))) (eC (.int 12))))
/-- cell = _law_cell_at(draw[0], draw[1] + at) + 31 * at -/
def S3__law_next : SF :=
 (sSet 3 (eB oAdd (eA F__law_cell_at (aCons (eB oIxD (eVar 0) (eC (.int 0))) (aCons (eB oAdd (eB oIxD (eVar 0) (eC (.int 1))) (eVar 2)) aNil))) (eB oMul (eC (.int 31)) (eVar 2))))
/-- return _law_number(cell, int(draw[2]) % 12 + 1, bound) -/
def S4__law_next : SF :=
 (sRet (eA F__law_number (aCons (eVar 3) (aCons (eB oAdd (eB oMod (eA (o1 gInt) (aCons (eB oIxD (eVar 0) (eC (.int 2))) aNil)) (eC (.int 12))) (eC (.int 1))) (aCons (eVar 1) aNil)))))
/-- slots: 0 draw, 1 bound, 2 at, 3 cell -/
def B__law_next : SF :=
 (sSeq S1__law_next (sSeq S2__law_next (sSeq S3__law_next S4__law_next)))
def F__law_next : List PV → Sto → R PV := fnOf 2 4 B__law_next

/-- return things[_law_next(draw, len(things))] -/
def S1__law_pick : SF :=
 (sRet (eB oIxD (eVar 1) (eA F__law_next (aCons (eVar 0) (aCons (eA (o1 gLenD) (aCons (eVar 1) aNil)) aNil)))))
/-- slots: 0 draw, 1 things -/
def B__law_pick : SF :=
 S1__law_pick
def F__law_pick : List PV → Sto → R PV := fnOf 2 2 B__law_pick

/-- raise BadThing(signs) -/
def S2_check_signs : SF :=
 sNo
/-- if not isinstance(signs, str) or not 1 <= len(signs) <= 4 or len({sign: True for sign in signs}) != len(signs): -/
def S1_check_signs : SF :=
 (sIf (bOr (bNot (bV (eA (o2 gIsi) (aCons (eVar 0) (aCons (eC (.ty 2)) aNil))))) (bOr (bNot (bV (eCh (oI fun i j => decide (i ≤ j)) (oI fun i j => decide (i ≤ j)) (eC (.int 1)) (eA (o1 gLenD) (aCons (eVar 0) aNil)) (eC (.int 4))))) (bV (eB oNe (eA (o1 gLenD) (aCons (eDC (iAny (eVar 0)) [1] (.nm 1) bYes (eVar 1) (eC (.bl true))) aNil)) (eA (o1 gLenD) (aCons (eVar 0) aNil))))))
 S2_check_signs
 sNil)
/-- raise BadThing(signs) -/
def S4_check_signs : SF :=
 sNo
/-- if not all([sign in LETTERS for sign in signs]): -/
def S3_check_signs : SF :=
 (sIf (bNot (bV (eA (o1 (gBools fun bs => bs.all id)) (aCons (eLC (iAny (eVar 0)) [1] (.nm 1) bYes (eB (oInD false) (eVar 1) (eC (.str [97, 98, 99, 100, 101, 102, 103, 104, 105, 106, 107, 108, 109, 110, 111, 112, 113, 114, 115, 116, 117, 118, 119, 120, 121, 122])))) aNil))))
 S4_check_signs
 sNil)
/-- slots: 0 signs, 1 sign -/
def B_check_signs : SF :=
 (sSeq S1_check_signs S3_check_signs)
def F_check_signs : List PV → Sto → R PV := fnOf 1 2 B_check_signs

/-- check_signs(signs) -/
def S1_check_run : SF :=
 (sEx (eA (frm F_check_signs) (aCons (eVar 0) aNil)))
/-- raise BadThing(text) -/
def S3_check_run : SF :=
 sNo
/-- if not isinstance(text, str) or len(text) > 200 or (not all([sign in signs for sign in text])): -/
def S2_check_run : SF :=
 (sIf (bOr (bNot (bV (eA (o2 gIsi) (aCons (eVar 1) (aCons (eC (.ty 2)) aNil))))) (bOr (bV (eB (oI fun i j => decide (j < i)) (eA (o1 gLenD) (aCons (eVar 1) aNil)) (eC (.int 200)))) (bNot (bV (eA (o1 (gBools fun bs => bs.all id)) (aCons (eLC (iAny (eVar 1)) [2] (.nm 2) bYes (eB (oInD false) (eVar 2) (eVar 0))) aNil))))))
 S3_check_run
 sNil)
/-- slots: 0 signs, 1 text, 2 sign -/
def B_check_run : SF :=
 (sSeq S1_check_run S2_check_run)
def F_check_run : List PV → Sto → R PV := fnOf 2 3 B_check_run

/-- return isinstance(thing, int) and (not isinstance(thing, bool)) -/
def S1_is_whole : SF :=
 (sRet (eAnd (eA (o2 gIsi) (aCons (eVar 0) (aCons (eC (.ty 0)) aNil))) (eNot (eA (o2 gIsi) (aCons (eVar 0) (aCons (eC (.ty 1)) aNil))))))
/-- slots: 0 thing -/
def B_is_whole : SF :=
 S1_is_whole
def F_is_whole : List PV → Sto → R PV := fnOf 1 1 B_is_whole

/-- return is_whole(thing) and least <= thing <= most -/
def S1_is_from : SF :=
 (sRet (eAnd (eA (frm F_is_whole) (aCons (eVar 0) aNil)) (eCh (oI fun i j => decide (i ≤ j)) (oI fun i j => decide (i ≤ j)) (eVar 1) (eVar 0) (eVar 2))))
/-- slots: 0 thing, 1 least, 2 most -/
def B_is_from : SF :=
 S1_is_from
def F_is_from : List PV → Sto → R PV := fnOf 3 3 B_is_from

/-- raise BadThing(width) -/
def S2_check_width : SF :=
 sNo
/-- if not is_from(width, 1, 3): -/
def S1_check_width : SF :=
 (sIf (bNot (bV (eA (frm F_is_from) (aCons (eVar 0) (aCons (eC (.int 1)) (aCons (eC (.int 3)) aNil))))))
 S2_check_width
 sNil)
/-- slots: 0 width -/
def B_check_width : SF :=
 S1_check_width
def F_check_width : List PV → Sto → R PV := fnOf 1 1 B_check_width

/-- check_run(signs, text) -/
def S1_runs_of : SF :=
 (sEx (eA (frm F_check_run) (aCons (eVar 0) (aCons (eVar 1) aNil))))
/-- check_width(width) -/
def S2_runs_of : SF :=
 (sEx (eA (frm F_check_width) (aCons (eVar 2) aNil)))
/-- return tuple(sorted({text[at:at + width]: True for at in range(len(text) - width + 1)})) -/
def S3_runs_of : SF :=
 (sRet (eA (o1 gTuple) (aCons (eA (o1 gSorted) (aCons (eDC (iR1 (aCons (eB oAdd (eB oSub (eA (o1 gLenD) (aCons (eVar 1) aNil)) (eVar 2)) (eC (.int 1))) aNil)) [3] (.nm 3) bYes (eSl (eVar 1) (pSome (eVar 3)) (pSome (eB oAdd (eVar 3) (eVar 2)))) (eC (.bl true))) aNil)) aNil)))
/-- slots: 0 signs, 1 text, 2 width, 3 at -/
def B_runs_of : SF :=
 (sSeq S1_runs_of (sSeq S2_runs_of S3_runs_of))
def F_runs_of : List PV → Sto → R PV := fnOf 3 4 B_runs_of

/-- check_signs(signs) -/
def S1_run_postings : SF :=
 (sEx (eA (frm F_check_signs) (aCons (eVar 0) aNil)))
/-- raise BadThing(texts) -/
def S3_run_postings : SF :=
 sNo
/-- if not isinstance(texts, tuple) or len(texts) > 50: -/
def S2_run_postings : SF :=
 (sIf (bOr (bNot (bV (eA (o2 gIsi) (aCons (eVar 1) (aCons (eC (.ty 3)) aNil))))) (bV (eB (oI fun i j => decide (j < i)) (eA (o1 gLenD) (aCons (eVar 1) aNil)) (eC (.int 50)))))
 S3_run_postings
 sNil)
/-- check_run(signs, text) -/
def S5_run_postings : SF :=
 (sEx (eA (frm F_check_run) (aCons (eVar 0) (aCons (eVar 3) aNil))))
/-- for text in texts: -/
def S4_run_postings : SF :=
 (sFor (iAny (eVar 1)) (.nm 3)
 S5_run_postings)
/-- check_width(width) -/
def S6_run_postings : SF :=
 (sEx (eA (frm F_check_width) (aCons (eVar 2) aNil)))
/-- found = {} -/
def S7_run_postings : SF :=
 (sSet 4 eD0N)
/-- found[run] = (*found.get(run, ()), number) -/
def S10_run_postings : SF :=
 (sPut (eA mkTup (aStar (eM 5 (m2 gGet2) (eVar 4) (aCons (eVar 6) (aCons (eA mkTup aNil) aNil))) (aCons (eVar 5) aNil))) (eVar 4) (eVar 6))
/-- for run in runs_of(signs, text, width): -/
def S9_run_postings : SF :=
 (sFor (iAny (eA (frm F_runs_of) (aCons (eVar 0) (aCons (eVar 3) (aCons (eVar 2) aNil))))) (.nm 6)
 S10_run_postings)
/-- for number, text in enumerate(texts): -/
def S8_run_postings : SF :=
 (sFor (iEnumF (aCons (eVar 1) aNil)) (.tp [(.nm 5), (.nm 3)])
 S9_run_postings)
/-- return {run: found[run] for run in sorted(found)} -/
def S11_run_postings : SF :=
 (sRet (eDC (iAny (eA (o1 gSorted) (aCons (eVar 4) aNil))) [6] (.nm 6) bYes (eVar 6) (eB oIxD (eVar 4) (eVar 6))))
/-- slots: 0 signs, 1 texts, 2 width, 3 text, 4 found, 5 number, 6 run -/
def B_run_postings : SF :=
 (sSeq S1_run_postings (sSeq S2_run_postings (sSeq S4_run_postings (sSeq S6_run_postings (sSeq S7_run_postings (sSeq S8_run_postings S11_run_postings))))))
def F_run_postings : List PV → Sto → R PV := fnOf 3 7 B_run_postings

/-- check_signs(signs) -/
def S1_may_have : SF :=
 (sEx (eA (frm F_check_signs) (aCons (eVar 0) aNil)))
/-- check_width(width) -/
def S2_may_have : SF :=
 (sEx (eA (frm F_check_width) (aCons (eVar 2) aNil)))
/-- check_run(signs, part) -/
def S3_may_have : SF :=
 (sEx (eA (frm F_check_run) (aCons (eVar 0) (aCons (eVar 4) aNil))))
/-- raise BadThing(many) -/
def S5_may_have : SF :=
 sNo
/-- if not is_from(many, 0, 50): -/
def S4_may_have : SF :=
 (sIf (bNot (bV (eA (frm F_is_from) (aCons (eVar 3) (aCons (eC (.int 0)) (aCons (eC (.int 50)) aNil))))))
 S5_may_have
 sNil)
/-- raise BadThing(table) -/
def S7_may_have : SF :=
 sNo
/-- if not isinstance(table, dict): -/
def S6_may_have : SF :=
 (sIf (bNot (bV (eA (o2 gIsi) (aCons (eVar 1) (aCons (eC (.ty 5)) aNil)))))
 S7_may_have
 sNil)
/-- runs = runs_of(signs, part, width) -/
def S8_may_have : SF :=
 (sSet 5 (eA (frm F_runs_of) (aCons (eVar 0) (aCons (eVar 4) (aCons (eVar 2) aNil)))))
/-- return tuple([number for number in range(many) if all([number in table.get(run, ()) for run in runs])]) -/
def S9_may_have : SF :=
 (sRet (eA (o1 gTuple) (aCons (eLC (iR1 (aCons (eVar 3) aNil)) [6] (.nm 6) (bV (eA (o1 (gBools fun bs => bs.all id)) (aCons (eLC (iAny (eVar 5)) [7] (.nm 7) bYes (eB (oInD false) (eVar 6) (eM 5 (m2 gGet2) (eVar 1) (aCons (eVar 7) (aCons (eA mkTup aNil) aNil))))) aNil))) (eVar 6)) aNil)))
/-- slots: 0 signs, 1 table, 2 width, 3 many, 4 part, 5 runs, 6 number, 7 run -/
def B_may_have : SF :=
 (sSeq S1_may_have (sSeq S2_may_have (sSeq S3_may_have (sSeq S4_may_have (sSeq S6_may_have (sSeq S8_may_have S9_may_have))))))
def F_may_have : List PV → Sto → R PV := fnOf 5 8 B_may_have

/-- table = run_postings(signs, texts, width) -/
def S1_search : SF :=
 (sSet 4 (eA (frm F_run_postings) (aCons (eVar 0) (aCons (eVar 1) (aCons (eVar 2) aNil)))))
/-- rows = may_have(signs, table, width, len(texts), part) -/
def S2_search : SF :=
 (sSet 5 (eA (frm F_may_have) (aCons (eVar 0) (aCons (eVar 4) (aCons (eVar 2) (aCons (eA (o1 gLenD) (aCons (eVar 1) aNil)) (aCons (eVar 3) aNil)))))))
/-- return (tuple([number for number in rows if part in texts[number]]), len(rows)) -/
def S3_search : SF :=
 (sRet (eA mkTup (aCons (eA (o1 gTuple) (aCons (eLC (iAny (eVar 5)) [6] (.nm 6) (bV (eB (oInD false) (eVar 3) (eB oIxD (eVar 1) (eVar 6)))) (eVar 6)) aNil)) (aCons (eA (o1 gLenD) (aCons (eVar 5) aNil)) aNil))))
/-- slots: 0 signs, 1 texts, 2 width, 3 part, 4 table, 5 rows, 6 number -/
def B_search : SF :=
 (sSeq S1_search (sSeq S2_search S3_search))
def F_search : List PV → Sto → R PV := fnOf 4 7 B_search

/-- keep = max([len(self.part) - 1, 0]) -/
def S1_Walks_kind : SF :=
 (sSet 5 (eA (o1 (gExt maxI)) (aCons (eA mkLst (aCons (eB oSub (eA (o1 gLenD) (aCons (eFld 0 [112, 97, 114, 116] (eVar 0)) aNil)) (eC (.int 1))) (aCons (eC (.int 0)) aNil))) aNil)))
/-- return (runs, tail, seen[len(seen) - min([keep, len(seen)]):] if not is_in else '', is_in) -/
def S2_Walks_kind : SF :=
 (sRet (eA mkTup (aCons (eVar 1) (aCons (eVar 2) (aCons (eIf (bNot (bV (eVar 4))) (eSl (eVar 3) (pSome (eB oSub (eA (o1 gLenD) (aCons (eVar 3) aNil)) (eA (o1 (gExt minI)) (aCons (eA mkLst (aCons (eVar 5) (aCons (eA (o1 gLenD) (aCons (eVar 3) aNil)) aNil))) aNil)))) pNone) (eC (.str []))) (aCons (eVar 4) aNil))))))
/-- slots: 0 self, 1 runs, 2 tail, 3 seen, 4 is_in, 5 keep -/
def B_Walks_kind : SF :=
 (sSeq S1_Walks_kind S2_Walks_kind)
def F_Walks_kind : List PV → Sto → R PV := fnOf 5 6 B_Walks_kind

/-- self.signs = signs -/
def S1_WalksU_initU : SF :=
 (sFldP 0 [115, 105, 103, 110, 115] (eVar 0) (eVar 1))
/-- self.width = width -/
def S2_WalksU_initU : SF :=
 (sFldP 0 [119, 105, 100, 116, 104] (eVar 0) (eVar 2))
/-- self.part = part -/
def S3_WalksU_initU : SF :=
 (sFldP 0 [112, 97, 114, 116] (eVar 0) (eVar 3))
/-- first = self.kind((), '', '', '' == part) -/
def S4_WalksU_initU : SF :=
 (sSet 4 (eMeth 0 [107, 105, 110, 100] F_Walks_kind (eVar 0) (aCons (eA mkTup aNil) (aCons (eC (.str [])) (aCons (eC (.str [])) (aCons (eB oEq (eC (.str [])) (eVar 3)) aNil))))))
/-- self.texts = {first: ''} -/
def S5_WalksU_initU : SF :=
 (sFldP 0 [116, 101, 120, 116, 115] (eVar 0) (eD1N (eVar 4) (eC (.str []))))
/-- self.waiting = [first] -/
def S6_WalksU_initU : SF :=
 (sFldP 0 [119, 97, 105, 116, 105, 110, 103] (eVar 0) (eA mkNew (aCons (eVar 4) aNil)))
/-- slots: 0 self, 1 signs, 2 width, 3 part, 4 first -/
def B_WalksU_initU : SF :=
 (sSeq S1_WalksU_initU (sSeq S2_WalksU_initU (sSeq S3_WalksU_initU (sSeq S4_WalksU_initU (sSeq S5_WalksU_initU S6_WalksU_initU)))))
def F_WalksU_initU : List PV → Sto → R PV := fnOf 4 5 B_WalksU_initU

/-- runs, tail, seen, is_in = kind -/
def S1_Walks_step : SF :=
 (sAsg (.tp [(.nm 3), (.nm 4), (.nm 5), (.nm 6)]) (eVar 1))
/-- whole, late = (tail + sign, seen + sign) -/
def S2_Walks_step : SF :=
 (sPar 7 8 (eB oAdd (eVar 4) (eVar 2)) (eB oAdd (eVar 5) (eVar 2)))
/-- runs = tuple(sorted({**dict([(run, True) for run in runs]), whole: True})) -/
def S4_Walks_step : SF :=
 (sSet 3 (eA (o1 gTuple) (aCons (eA (o1 gSorted) (aCons (eSK (eA (o1 gDict) (aCons (eLC (iAny (eVar 3)) [9] (.nm 9) bYes (eA mkTup (aCons (eVar 9) (aCons (eC (.bl true)) aNil)))) aNil)) (eVar 7) (eC (.bl true))) aNil)) aNil)))
/-- whole = whole[1:] -/
def S5_Walks_step : SF :=
 (sSet 7 (eSl (eVar 7) (pSome (eC (.int 1))) pNone))
/-- if len(whole) >= self.width: -/
def S3_Walks_step : SF :=
 (sIf (bV (eB (oI fun i j => decide (j ≤ i)) (eA (o1 gLenD) (aCons (eVar 7) aNil)) (eFld 0 [119, 105, 100, 116, 104] (eVar 0))))
 (sSeq S4_Walks_step S5_Walks_step)
 sNil)
/-- return self.kind(runs, whole, late, is_in or late[-len(self.part):] == self.part) -/
def S6_Walks_step : SF :=
 (sRet (eMeth 0 [107, 105, 110, 100] F_Walks_kind (eVar 0) (aCons (eVar 3) (aCons (eVar 7) (aCons (eVar 8) (aCons (eOr (eVar 6) (eB oEq (eSl (eVar 8) (pSome (eU oNeg (eA (o1 gLenD) (aCons (eFld 0 [112, 97, 114, 116] (eVar 0)) aNil)))) pNone) (eFld 0 [112, 97, 114, 116] (eVar 0)))) aNil))))))
/-- slots: 0 self, 1 kind, 2 sign, 3 runs, 4 tail, 5 seen, 6 is_in, 7 whole, 8 late, 9 run -/
def B_Walks_step : SF :=
 (sSeq S1_Walks_step (sSeq S2_Walks_step (sSeq S3_Walks_step S6_Walks_step)))
def F_Walks_step : List PV → Sto → R PV := fnOf 3 10 B_Walks_step

/-- at = 0 -/
def S1_Walks_grow : SF :=
 (sSet 1 (eC (.int 0)))
/-- here = self.waiting[at] -/
def S3_Walks_grow : SF :=
 (sSet 2 (eB oIxD (eFld 0 [119, 97, 105, 116, 105, 110, 103] (eVar 0)) (eVar 1)))
/-- late = self.step(here, sign) -/
def S5_Walks_grow : SF :=
 (sSet 4 (eMeth 0 [115, 116, 101, 112] F_Walks_step (eVar 0) (aCons (eVar 2) (aCons (eVar 3) aNil))))
/-- self.texts[late] = self.texts[here] + sign -/
def S7_Walks_grow : SF :=
 (sPut (eB oAdd (eB oIxD (eFld 0 [116, 101, 120, 116, 115] (eVar 0)) (eVar 2)) (eVar 3)) (eFld 0 [116, 101, 120, 116, 115] (eVar 0)) (eVar 4))
/-- self.waiting.append(late) -/
def S8_Walks_grow : SF :=
 (sEx (eM 4 (m1 gApp) (eFld 0 [119, 97, 105, 116, 105, 110, 103] (eVar 0)) (aCons (eVar 4) aNil)))
/-- if late not in self.texts: -/
def S6_Walks_grow : SF :=
 (sIf (bV (eB (oInD true) (eVar 4) (eFld 0 [116, 101, 120, 116, 115] (eVar 0))))
 (sSeq S7_Walks_grow S8_Walks_grow)
 sNil)
/-- for sign in self.signs: -/
def S4_Walks_grow : SF :=
 (sFor (iAny (eFld 0 [115, 105, 103, 110, 115] (eVar 0))) (.nm 3)
 (sSeq S5_Walks_grow S6_Walks_grow))
/-- raise TooMany(MOST_SETS) -/
def S10_Walks_grow : SF :=
 sNo
/-- if len(self.texts) > MOST_SETS: -/
def S9_Walks_grow : SF :=
 (sIf (bV (eB (oI fun i j => decide (j < i)) (eA (o1 gLenD) (aCons (eFld 0 [116, 101, 120, 116, 115] (eVar 0)) aNil)) (eC (.int 300))))
 S10_Walks_grow
 sNil)
/-- at += 1 -/
def S11_Walks_grow : SF :=
 (sAug 1 oAddI (eC (.int 1)))
/-- while at < len(self.waiting): -/
def S2_Walks_grow : SF :=
 (whileN (bV (eB (oLt (fun i j => decide (i < j)) fun x y => decide (x < y)) (eVar 1) (eA (o1 gLenD) (aCons (eFld 0 [119, 97, 105, 116, 105, 110, 103] (eVar 0)) aNil))))
 (sSeq S3_Walks_grow (sSeq S4_Walks_grow (sSeq S9_Walks_grow S11_Walks_grow))) 100000)
/-- slots: 0 self, 1 at, 2 here, 3 sign, 4 late -/
def B_Walks_grow : SF :=
 (sSeq S1_Walks_grow S2_Walks_grow)
def F_Walks_grow : List PV → Sto → R PV := fnOf 1 5 B_Walks_grow

/-- check_signs(signs) -/
def S1_run_exactly : SF :=
 (sEx (eA (frm F_check_signs) (aCons (eVar 0) aNil)))
/-- check_width(width) -/
def S2_run_exactly : SF :=
 (sEx (eA (frm F_check_width) (aCons (eVar 1) aNil)))
/-- check_run(signs, part) -/
def S3_run_exactly : SF :=
 (sEx (eA (frm F_check_run) (aCons (eVar 0) (aCons (eVar 2) aNil))))
/-- walks = Walks(signs, width, part) -/
def S4_run_exactly : SF :=
 (sSet 3 (eMake 0 F_WalksU_initU (aCons (eVar 0) (aCons (eVar 1) (aCons (eVar 2) aNil)))))
/-- walks.grow() -/
def S5_run_exactly : SF :=
 (sEx (eMeth 0 [103, 114, 111, 119] F_Walks_grow (eVar 3) aNil))
/-- rows = {} -/
def S6_run_exactly : SF :=
 (sSet 4 eD0N)
/-- rows[kind[0]] = {kind[3]: walks.texts[kind], **rows.get(kind[0], {})} -/
def S8_run_exactly : SF :=
 (sPut (eKS (eB oIxD (eVar 5) (eC (.int 3))) (eB oIxD (eFld 0 [116, 101, 120, 116, 115] (eVar 3)) (eVar 5)) (eM 5 (m2 gGet2) (eVar 4) (aCons (eB oIxD (eVar 5) (eC (.int 0))) (aCons eD0 aNil)))) (eVar 4) (eB oIxD (eVar 5) (eC (.int 0))))
/-- for kind in walks.waiting: -/
def S7_run_exactly : SF :=
 (sForL 100000 (eFld 0 [119, 97, 105, 116, 105, 110, 103] (eVar 3)) (.nm 5)
 S8_run_exactly)
/-- return ('apart', rows[runs][False], rows[runs][True]) -/
def S11_run_exactly : SF :=
 (sRet (eA mkTup (aCons (eC (.str [97, 112, 97, 114, 116])) (aCons (eB oIxD (eB oIxD (eVar 4) (eVar 6)) (eC (.bl false))) (aCons (eB oIxD (eB oIxD (eVar 4) (eVar 6)) (eC (.bl true))) aNil)))))
/-- if len(rows[runs]) == 2: -/
def S10_run_exactly : SF :=
 (sIf (bV (eB oEq (eA (o1 gLenD) (aCons (eB oIxD (eVar 4) (eVar 6)) aNil)) (eC (.int 2))))
 S11_run_exactly
 sNil)
/-- for runs in sorted(rows): -/
def S9_run_exactly : SF :=
 (sFor (iAny (eA (o1 gSorted) (aCons (eVar 4) aNil))) (.nm 6)
 S10_run_exactly)
/-- return ('exact', {runs: list(rows[runs])[0] for runs in sorted(rows)}) -/
def S12_run_exactly : SF :=
 (sRet (eA mkTup (aCons (eC (.str [101, 120, 97, 99, 116])) (aCons (eDC (iAny (eA (o1 gSorted) (aCons (eVar 4) aNil))) [6] (.nm 6) bYes (eVar 6) (eB oIxD (eA (o1 gList) (aCons (eB oIxD (eVar 4) (eVar 6)) aNil)) (eC (.int 0)))) aNil))))
/-- slots: 0 signs, 1 width, 2 part, 3 walks, 4 rows, 5 kind, 6 runs -/
def B_run_exactly : SF :=
 (sSeq S1_run_exactly (sSeq S2_run_exactly (sSeq S3_run_exactly (sSeq S4_run_exactly (sSeq S5_run_exactly (sSeq S6_run_exactly (sSeq S7_run_exactly (sSeq S9_run_exactly S12_run_exactly))))))))
def F_run_exactly : List PV → Sto → R PV := fnOf 3 7 B_run_exactly

/-- due = run_exactly(signs, width, part) -/
def S1_run_exactly_holds : SF :=
 (sSet 4 (eA (frm F_run_exactly) (aCons (eVar 0) (aCons (eVar 1) (aCons (eVar 2) aNil)))))
/-- return False -/
def S3_run_exactly_holds : SF :=
 (sRet (eC (.bl false)))
/-- if not isinstance(told, tuple) or len(told) not in (2, 3) or told[0] not in ('exact', 'apart'): -/
def S2_run_exactly_holds : SF :=
 (sIf (bOr (bNot (bV (eA (o2 gIsi) (aCons (eVar 3) (aCons (eC (.ty 3)) aNil))))) (bOr (bV (eB (oInD true) (eA (o1 gLenD) (aCons (eVar 3) aNil)) (eA mkTup (aCons (eC (.int 2)) (aCons (eC (.int 3)) aNil))))) (bV (eB (oInD true) (eB oIxD (eVar 3) (eC (.int 0))) (eA mkTup (aCons (eC (.str [101, 120, 97, 99, 116])) (aCons (eC (.str [97, 112, 97, 114, 116])) aNil)))))))
 S3_run_exactly_holds
 sNil)
/-- return due == told and all([isinstance(one, bool) for one in told[1].values()]) -/
def S5_run_exactly_holds : SF :=
 (sRet (eAnd (eB oEq (eVar 4) (eVar 3)) (eA (o1 (gBools fun bs => bs.all id)) (aCons (eLC (iValsF (eB oIxD (eVar 3) (eC (.int 1)))) [7] (.nm 7) bYes (eA (o2 gIsi) (aCons (eVar 7) (aCons (eC (.ty 1)) aNil)))) aNil))))
/-- if told[0] == 'exact': -/
def S4_run_exactly_holds : SF :=
 (sIf (bV (eB oEq (eB oIxD (eVar 3) (eC (.int 0))) (eC (.str [101, 120, 97, 99, 116]))))
 S5_run_exactly_holds
 sNil)
/-- return False -/
def S7_run_exactly_holds : SF :=
 (sRet (eC (.bl false)))
/-- if len(told) != 3 or not all([isinstance(text, str) and len(text) <= 200 for text in told[1:]]): -/
def S6_run_exactly_holds : SF :=
 (sIf (bOr (bV (eB oNe (eA (o1 gLenD) (aCons (eVar 3) aNil)) (eC (.int 3)))) (bNot (bV (eA (o1 (gBools fun bs => bs.all id)) (aCons (eLC (iAny (eSl (eVar 3) (pSome (eC (.int 1))) pNone)) [5] (.nm 5) bYes (eAnd (eA (o2 gIsi) (aCons (eVar 5) (aCons (eC (.ty 2)) aNil))) (eB (oI fun i j => decide (i ≤ j)) (eA (o1 gLenD) (aCons (eVar 5) aNil)) (eC (.int 200))))) aNil)))))
 S7_run_exactly_holds
 sNil)
/-- return False -/
def S9_run_exactly_holds : SF :=
 (sRet (eC (.bl false)))
/-- if not all([sign in signs for text in told[1:] for sign in text]): -/
def S8_run_exactly_holds : SF :=
 (sIf (bNot (bV (eA (o1 (gBools fun bs => bs.all id)) (aCons (eLC2 (iAny (eSl (eVar 3) (pSome (eC (.int 1))) pNone)) [5, 6] (.nm 5) bYes (iAny (eVar 5)) [6] (.nm 6) bYes (eB (oInD false) (eVar 6) (eVar 0))) aNil))))
 S9_run_exactly_holds
 sNil)
/-- return runs_of(signs, told[1], width) == runs_of(signs, told[2], width) and part not in told[1] and (part in told[2]) -/
def S10_run_exactly_holds : SF :=
 (sRet (eAnd (eB oEq (eA (frm F_runs_of) (aCons (eVar 0) (aCons (eB oIxD (eVar 3) (eC (.int 1))) (aCons (eVar 1) aNil)))) (eA (frm F_runs_of) (aCons (eVar 0) (aCons (eB oIxD (eVar 3) (eC (.int 2))) (aCons (eVar 1) aNil))))) (eAnd (eB (oInD true) (eVar 2) (eB oIxD (eVar 3) (eC (.int 1)))) (eB (oInD false) (eVar 2) (eB oIxD (eVar 3) (eC (.int 2)))))))
/-- slots: 0 signs, 1 width, 2 part, 3 told, 4 due, 5 text, 6 sign, 7 one -/
def B_run_exactly_holds : SF :=
 (sSeq S1_run_exactly_holds (sSeq S2_run_exactly_holds (sSeq S4_run_exactly_holds (sSeq S6_run_exactly_holds (sSeq S8_run_exactly_holds S10_run_exactly_holds)))))
def F_run_exactly_holds : List PV → Sto → R PV := fnOf 4 8 B_run_exactly_holds

/-- draw = [script[:63], 0, 0] -/
def S1_law : SF :=
 (sSet 1 (eA mkNew (aCons (eSl (eVar 0) pNone (pSome (eC (.int 63)))) (aCons (eC (.int 0)) (aCons (eC (.int 0)) aNil)))))
/-- texts = tuple([''.join([_law_pick(draw, ['a', 'b']) for step in range(_law_next(draw, 10))]) for turn in range(1 + _law_next(draw, 7))]) -/
def S2_law : SF :=
 (sSet 2 (eA (o1 gTuple) (aCons (eLC (iR1 (aCons (eB oAdd (eC (.int 1)) (eA F__law_next (aCons (eVar 1) (aCons (eC (.int 7)) aNil)))) aNil)) [12] (.nm 12) bYes (eM 2 (m1 gJoin) (eC (.str [])) (aCons (eLC (iR1 (aCons (eA F__law_next (aCons (eVar 1) (aCons (eC (.int 10)) aNil))) aNil)) [22] (.nm 22) bYes (eA F__law_pick (aCons (eVar 1) (aCons (eA mkLst (aCons (eC (.str [97])) (aCons (eC (.str [98])) aNil))) aNil)))) aNil))) aNil)))
/-- part = ''.join([_law_pick(draw, ['a', 'b']) for turn in range(_law_next(draw, 4))]) -/
def S3_law : SF :=
 (sSet 3 (eM 2 (m1 gJoin) (eC (.str [])) (aCons (eLC (iR1 (aCons (eA F__law_next (aCons (eVar 1) (aCons (eC (.int 4)) aNil))) aNil)) [12] (.nm 12) bYes (eA F__law_pick (aCons (eVar 1) (aCons (eA mkLst (aCons (eC (.str [97])) (aCons (eC (.str [98])) aNil))) aNil)))) aNil)))
/-- due = tuple([number for number, text in enumerate(texts) if part in text]) -/
def S4_law : SF :=
 (sSet 4 (eA (o1 gTuple) (aCons (eLC (iEnumF (aCons (eVar 2) aNil)) [15, 16] (.tp [(.nm 15), (.nm 16)]) (bV (eB (oInD false) (eVar 3) (eVar 16))) (eVar 15)) aNil)))
/-- last = None -/
def S5_law : SF :=
 (sSet 5 (eC .non))
/-- table = run_postings('ab', texts, width) -/
def S7_law : SF :=
 (sSet 9 (eA (frm F_run_postings) (aCons (eC (.str [97, 98])) (aCons (eVar 2) (aCons (eVar 6) aNil)))))
/-- numbers, looked = search('ab', texts, width, part) -/
def S8_law : SF :=
 (sAsg (.tp [(.nm 13), (.nm 14)]) (eA (frm F_search) (aCons (eC (.str [97, 98])) (aCons (eVar 2) (aCons (eVar 6) (aCons (eVar 3) aNil))))))
/-- rows = may_have('ab', table, width, len(texts), part) -/
def S9_law : SF :=
 (sSet 10 (eA (frm F_may_have) (aCons (eC (.str [97, 98])) (aCons (eVar 9) (aCons (eVar 6) (aCons (eA (o1 gLenD) (aCons (eVar 2) aNil)) (aCons (eVar 3) aNil)))))))
/-- return False -/
def S11_law : SF :=
 (sRet (eC (.bl false)))
/-- if numbers != due or looked != len(rows) or any([number not in rows for number in due]): -/
def S10_law : SF :=
 (sIf (bOr (bV (eB oNe (eVar 13) (eVar 4))) (bOr (bV (eB oNe (eVar 14) (eA (o1 gLenD) (aCons (eVar 10) aNil)))) (bV (eA (o1 (gBools fun bs => bs.any id)) (aCons (eLC (iAny (eVar 4)) [15] (.nm 15) bYes (eB (oInD true) (eVar 15) (eVar 10))) aNil)))))
 S11_law
 sNil)
/-- told = run_exactly('ab', width, part) -/
def S12_law : SF :=
 (sSet 11 (eA (frm F_run_exactly) (aCons (eC (.str [97, 98])) (aCons (eVar 6) (aCons (eVar 3) aNil)))))
/-- return False -/
def S15_law : SF :=
 (sRet (eC (.bl false)))
/-- if due != tuple([number for number, text in enumerate(texts) if told[1][runs_of('ab', text, width)]]): -/
def S14_law : SF :=
 (sIf (bV (eB oNe (eVar 4) (eA (o1 gTuple) (aCons (eLC (iEnumF (aCons (eVar 2) aNil)) [15, 16] (.tp [(.nm 15), (.nm 16)]) (bV (eB oIxD (eB oIxD (eVar 11) (eC (.int 1))) (eA (frm F_runs_of) (aCons (eC (.str [97, 98])) (aCons (eVar 16) (aCons (eVar 6) aNil)))))) (eVar 15)) aNil))))
 S15_law
 sNil)
/-- return False -/
def S17_law : SF :=
 (sRet (eC (.bl false)))
/-- if len(part) == width and rows != due: -/
def S16_law : SF :=
 (sIf (bAnd (bV (eB oEq (eA (o1 gLenD) (aCons (eVar 3) aNil)) (eVar 6))) (bV (eB oNe (eVar 10) (eVar 4))))
 S17_law
 sNil)
/-- return False -/
def S19_law : SF :=
 (sRet (eC (.bl false)))
/-- if len(part) == width or part == '': -/
def S18_law : SF :=
 (sIf (bOr (bV (eB oEq (eA (o1 gLenD) (aCons (eVar 3) aNil)) (eVar 6))) (bV (eB oEq (eVar 3) (eC (.str [])))))
 S19_law
 sNil)
/-- if told[0] == 'exact': -/
def S13_law : SF :=
 (sIf (bV (eB oEq (eB oIxD (eVar 11) (eC (.int 0))) (eC (.str [101, 120, 97, 99, 116]))))
 (sSeq S14_law S16_law)
 S18_law)
/-- return False -/
def S21_law : SF :=
 (sRet (eC (.bl false)))
/-- if len(part) >= width and last is not None and (len(part) >= width) and any([number not in last for number in rows]): -/
def S20_law : SF :=
 (sIf (bAnd (bV (eB (oI fun i j => decide (j ≤ i)) (eA (o1 gLenD) (aCons (eVar 3) aNil)) (eVar 6))) (bAnd (bV (eB (oIsN true) (eVar 5) (eC .non))) (bAnd (bV (eB (oI fun i j => decide (j ≤ i)) (eA (o1 gLenD) (aCons (eVar 3) aNil)) (eVar 6))) (bV (eA (o1 (gBools fun bs => bs.any id)) (aCons (eLC (iAny (eVar 10)) [15] (.nm 15) bYes (eB (oInD true) (eVar 15) (eVar 5))) aNil))))))
 S21_law
 sNil)
/-- last = rows if len(part) >= width else None -/
def S22_law : SF :=
 (sSet 5 (eIf (bV (eB (oI fun i j => decide (j ≤ i)) (eA (o1 gLenD) (aCons (eVar 3) aNil)) (eVar 6))) (eVar 10) (eC .non)))
/-- runs = runs_of('ab', text, width) -/
def S24_law : SF :=
 (sSet 17 (eA (frm F_runs_of) (aCons (eC (.str [97, 98])) (aCons (eVar 16) (aCons (eVar 6) aNil)))))
/-- return False -/
def S26_law : SF :=
 (sRet (eC (.bl false)))
/-- if any([number not in table[run] for run in runs]) or len(runs) > 2 * width or list(runs) != sorted(runs) or (len(text) < width and runs != ()): -/
def S25_law : SF :=
 (sIf (bOr (bV (eA (o1 (gBools fun bs => bs.any id)) (aCons (eLC (iAny (eVar 17)) [23] (.nm 23) bYes (eB (oInD true) (eVar 15) (eB oIxD (eVar 9) (eVar 23)))) aNil))) (bOr (bV (eB (oI fun i j => decide (j < i)) (eA (o1 gLenD) (aCons (eVar 17) aNil)) (eB oMul (eC (.int 2)) (eVar 6)))) (bOr (bV (eB oNe (eA (o1 gList) (aCons (eVar 17) aNil)) (eA (o1 gSorted) (aCons (eVar 17) aNil)))) (bAnd (bV (eB (oLt (fun i j => decide (i < j)) fun x y => decide (x < y)) (eA (o1 gLenD) (aCons (eVar 16) aNil)) (eVar 6))) (bV (eB oNe (eVar 17) (eA mkTup aNil)))))))
 S26_law
 sNil)
/-- return False -/
def S28_law : SF :=
 (sRet (eC (.bl false)))
/-- if any([run not in runs for run in runs_of('ab', text[1:], width)]): -/
def S27_law : SF :=
 (sIf (bV (eA (o1 (gBools fun bs => bs.any id)) (aCons (eLC (iAny (eA (frm F_runs_of) (aCons (eC (.str [97, 98])) (aCons (eSl (eVar 16) (pSome (eC (.int 1))) pNone) (aCons (eVar 6) aNil))))) [23] (.nm 23) bYes (eB (oInD true) (eVar 23) (eVar 17))) aNil)))
 S28_law
 sNil)
/-- swap = ''.join(['b' if sign == 'a' else 'a' for sign in text]) -/
def S29_law : SF :=
 (sSet 18 (eM 2 (m1 gJoin) (eC (.str [])) (aCons (eLC (iAny (eVar 16)) [24] (.nm 24) bYes (eIf (bV (eB oEq (eVar 24) (eC (.str [97])))) (eC (.str [98])) (eC (.str [97])))) aNil)))
/-- return False -/
def S31_law : SF :=
 (sRet (eC (.bl false)))
/-- if len(runs_of('ab', swap, width)) != len(runs): -/
def S30_law : SF :=
 (sIf (bV (eB oNe (eA (o1 gLenD) (aCons (eA (frm F_runs_of) (aCons (eC (.str [97, 98])) (aCons (eVar 18) (aCons (eVar 6) aNil)))) aNil)) (eA (o1 gLenD) (aCons (eVar 17) aNil))))
 S31_law
 sNil)
/-- for number, text in enumerate(texts): -/
def S23_law : SF :=
 (sFor (iEnumF (aCons (eVar 2) aNil)) (.tp [(.nm 15), (.nm 16)])
 (sSeq S24_law (sSeq S25_law (sSeq S27_law (sSeq S29_law S30_law)))))
/-- one, other = (_law_pick(draw, list(texts)), _law_pick(draw, list(texts))) -/
def S33_law : SF :=
 (sPar 20 21 (eA F__law_pick (aCons (eVar 1) (aCons (eA (o1 gList) (aCons (eVar 2) aNil)) aNil))) (eA F__law_pick (aCons (eVar 1) (aCons (eA (o1 gList) (aCons (eVar 2) aNil)) aNil))))
/-- same = runs_of('ab', one, width) == runs_of('ab', other, width) -/
def S34_law : SF :=
 (sSet 19 (eB oEq (eA (frm F_runs_of) (aCons (eC (.str [97, 98])) (aCons (eVar 20) (aCons (eVar 6) aNil)))) (eA (frm F_runs_of) (aCons (eC (.str [97, 98])) (aCons (eVar 21) (aCons (eVar 6) aNil))))))
/-- return False -/
def S36_law : SF :=
 (sRet (eC (.bl false)))
/-- if run_exactly_holds('ab', width, part, ('apart', one, other)) != (same and part not in one and (part in other)): -/
def S35_law : SF :=
 (sIf (bV (eB oNe (eA (frm F_run_exactly_holds) (aCons (eC (.str [97, 98])) (aCons (eVar 6) (aCons (eVar 3) (aCons (eA mkTup (aCons (eC (.str [97, 112, 97, 114, 116])) (aCons (eVar 20) (aCons (eVar 21) aNil)))) aNil))))) (eAnd (eVar 19) (eAnd (eB (oInD true) (eVar 3) (eVar 20)) (eB (oInD false) (eVar 3) (eVar 21))))))
 S36_law
 sNil)
/-- return False -/
def S38_law : SF :=
 (sRet (eC (.bl false)))
/-- if told[0] == 'exact' and same and ((part in one) != (part in other)): -/
def S37_law : SF :=
 (sIf (bAnd (bV (eB oEq (eB oIxD (eVar 11) (eC (.int 0))) (eC (.str [101, 120, 97, 99, 116])))) (bAnd (bV (eVar 19)) (bV (eB oNe (eB (oInD false) (eVar 3) (eVar 20)) (eB (oInD false) (eVar 3) (eVar 21))))))
 S38_law
 sNil)
/-- for turn in range(4): -/
def S32_law : SF :=
 (sFor (iR1 (aCons (eC (.int 4)) aNil)) (.nm 12)
 (sSeq S33_law (sSeq S34_law (sSeq S35_law S37_law))))
/-- return False -/
def S40_law : SF :=
 (sRet (eC (.bl false)))
/-- if may_have('ab', table, width, len(texts), '') != tuple(range(len(texts))) or may_have('ab', {}, width, len(texts), part) != (tuple(range(len(texts))) if len(part) < width else ()): -/
def S39_law : SF :=
 (sIf (bOr (bV (eB oNe (eA (frm F_may_have) (aCons (eC (.str [97, 98])) (aCons (eVar 9) (aCons (eVar 6) (aCons (eA (o1 gLenD) (aCons (eVar 2) aNil)) (aCons (eC (.str [])) aNil)))))) (eTupR (eA (o1 gLenD) (aCons (eVar 2) aNil))))) (bV (eB oNe (eA (frm F_may_have) (aCons (eC (.str [97, 98])) (aCons eD0 (aCons (eVar 6) (aCons (eA (o1 gLenD) (aCons (eVar 2) aNil)) (aCons (eVar 3) aNil)))))) (eIf (bV (eB (oLt (fun i j => decide (i < j)) fun x y => decide (x < y)) (eA (o1 gLenD) (aCons (eVar 3) aNil)) (eVar 6))) (eTupR (eA (o1 gLenD) (aCons (eVar 2) aNil))) (eA mkTup aNil)))))
 S40_law
 sNil)
/-- return False -/
def S42_law : SF :=
 (sRet (eC (.bl false)))
/-- if sum([len(row) for row in table.values()]) != sum([len(runs_of('ab', text, width)) for text in texts]): -/
def S41_law : SF :=
 (sIf (bV (eB oNe (eA (o1 gSum) (aCons (eLC (iValsF (eVar 9)) [25] (.nm 25) bYes (eA (o1 gLenD) (aCons (eVar 25) aNil))) aNil)) (eA (o1 gSum) (aCons (eLC (iAny (eVar 2)) [16] (.nm 16) bYes (eA (o1 gLenD) (aCons (eA (frm F_runs_of) (aCons (eC (.str [97, 98])) (aCons (eVar 16) (aCons (eVar 6) aNil)))) aNil))) aNil))))
 S42_law
 sNil)
/-- for width in range(1, 3): -/
def S6_law : SF :=
 (sFor (iR2 (aCons (eC (.int 1)) (aCons (eC (.int 3)) aNil))) (.nm 6)
 (sSeq S7_law (sSeq S8_law (sSeq S9_law (sSeq S10_law (sSeq S12_law (sSeq S13_law (sSeq S20_law (sSeq S22_law (sSeq S23_law (sSeq S32_law (sSeq S39_law S41_law))))))))))))
/-- turned = tuple([text[::-1] for text in texts]) -/
def S43_law : SF :=
 (sSet 7 (eA (o1 gTuple) (aCons (eLC (iAny (eVar 2)) [16] (.nm 16) bYes (eU oRev (eVar 16))) aNil)))
/-- return False -/
def S45_law : SF :=
 (sRet (eC (.bl false)))
/-- if search('ab', turned, 2, part[::-1])[0] != due or search('ba', texts, 2, part) != search('ab', texts, 2, part): -/
def S44_law : SF :=
 (sIf (bOr (bV (eB oNe (eB oIxD (eA (frm F_search) (aCons (eC (.str [97, 98])) (aCons (eVar 7) (aCons (eC (.int 2)) (aCons (eU oRev (eVar 3)) aNil))))) (eC (.int 0))) (eVar 4))) (bV (eB oNe (eA (frm F_search) (aCons (eC (.str [98, 97])) (aCons (eVar 2) (aCons (eC (.int 2)) (aCons (eVar 3) aNil))))) (eA (frm F_search) (aCons (eC (.str [97, 98])) (aCons (eVar 2) (aCons (eC (.int 2)) (aCons (eVar 3) aNil))))))))
 S45_law
 sNil)
/-- wide = run_exactly('abc', 1, part[:1]) -/
def S46_law : SF :=
 (sSet 8 (eA (frm F_run_exactly) (aCons (eC (.str [97, 98, 99])) (aCons (eC (.int 1)) (aCons (eSl (eVar 3) pNone (pSome (eC (.int 1)))) aNil)))))
/-- return wide[0] == 'exact' and all([answer == (part[:1] == '' or part[:1] in key) for key, answer in wide[1].items()]) and (len(wide[1]) == 8) -/
def S47_law : SF :=
 (sRet (eAnd (eB oEq (eB oIxD (eVar 8) (eC (.int 0))) (eC (.str [101, 120, 97, 99, 116]))) (eAnd (eA (o1 (gBools fun bs => bs.all id)) (aCons (eLC (iItemsF (eB oIxD (eVar 8) (eC (.int 1)))) [26, 27] (.tp [(.nm 26), (.nm 27)]) bYes (eB oEq (eVar 27) (eOr (eB oEq (eSl (eVar 3) pNone (pSome (eC (.int 1)))) (eC (.str []))) (eB (oInD false) (eSl (eVar 3) pNone (pSome (eC (.int 1)))) (eVar 26))))) aNil)) (eB oEq (eA (o1 gLenD) (aCons (eB oIxD (eVar 8) (eC (.int 1))) aNil)) (eC (.int 8))))))
/-- slots: 0 script, 1 draw, 2 texts, 3 part, 4 due, 5 last, 6 width, 7 turned, 8 wide, 9 table, 10 rows, 11 told, 12 turn, 13 numbers, 14 looked, 15 number, 16 text, 17 runs, 18 swap, 19 same, 20 one, 21 other, 22 step, 23 run, 24 sign, 25 row, 26 key, 27 answer -/
def B_law : SF :=
 (sSeq S1_law (sSeq S2_law (sSeq S3_law (sSeq S4_law (sSeq S5_law (sSeq S6_law (sSeq S43_law (sSeq S44_law (sSeq S46_law S47_law)))))))))
def F_law : List PV → Sto → R PV := fnOf 1 28 B_law

end K44

set_option Elab.async false
set_option linter.all false
set_option maxRecDepth 100000
/-! PlDraw: the drawing functions that all laws share, plainly. -/
namespace Draw
open Pl

/-- return script[k] -/
def S2__law_cell_at : SF :=
 (sRet (eB oIxD (eVar 0) (eVar 1)))
/-- if k < len(script): -/
def S1__law_cell_at : SF :=
 (sIf (bV (eB (oLt (fun i j => decide (i < j)) fun x y => decide (x < y)) (eVar 1) (eA (o1 gLenD) (aCons (eVar 0) aNil))))
 S2__law_cell_at
 sNil)
/-- return 0 -/
def S3__law_cell_at : SF :=
 (sRet (eC (.int 0)))
/-- slots: 0 script, 1 k -/
def B__law_cell_at : SF :=
 (sSeq S1__law_cell_at S3__law_cell_at)
def F__law_cell_at : List PV → Sto → R PV := fnOf 2 2 B__law_cell_at

/-- primes = (1000003, 1000033, 1000037, 1000039, 1000081, 1000099, 1000117, 1000121, 1000133, 1000151, 1000159, 1000171, 1000183, 1000187, 1000193, 1000199) -/
def S1__law_draw : SF :=
 (sSet 3 (eA mkTup (aCons (eC (.int 1000003)) (aCons (eC (.int 1000033)) (aCons (eC (.int 1000037)) (aCons (eC (.int 1000039)) (aCons (eC (.int 1000081)) (aCons (eC (.int 1000099)) (aCons (eC (.int 1000117)) (aCons (eC (.int 1000121)) (aCons (eC (.int 1000133)) (aCons (eC (.int 1000151)) (aCons (eC (.int 1000159)) (aCons (eC (.int 1000171)) (aCons (eC (.int 1000183)) (aCons (eC (.int 1000187)) (aCons (eC (.int 1000193)) (aCons (eC (.int 1000199)) aNil))))))))))))))))))
/-- return int(cell * 48271 + k * 69621) % primes[int(k) % 16] % bound -/
def S2__law_draw : SF :=
 (sRet (eB oMod (eB oMod (eA (o1 gInt) (aCons (eB oAdd (eB oMul (eVar 0) (eC (.int 48271))) (eB oMul (eVar 1) (eC (.int 69621)))) aNil)) (eB oIxD (eVar 3) (eB oMod (eA (o1 gInt) (aCons (eVar 1) aNil)) (eC (.int 16))))) (eVar 2)))
/-- slots: 0 cell, 1 k, 2 bound, 3 primes -/
def B__law_draw : SF :=
 (sSeq S1__law_draw S2__law_draw)
def F__law_draw : List PV → Sto → R PV := fnOf 3 4 B__law_draw

/-- scale = 1 -/
def S1__law_number : SF :=
 (sSet 3 (eC (.int 1)))
/-- scale = scale * 1009 -/
def S3__law_number : SF :=
 (sSet 3 (eB oMul (eVar 3) (eC (.int 1009))))
/-- for lap in range(int(k) % 24): -/
def S2__law_number : SF :=
 (sFor (iR1 (aCons (eB oMod (eA (o1 gInt) (aCons (eVar 1) aNil)) (eC (.int 24))) aNil)) (.nm 4)
 S3__law_number)
/-- remains = (cell - 10 ** 18) // scale -/
def S4__law_number : SF :=
 (sSet 5 (eB oDiv (eB oSub (eVar 0) (eB oPow (eC (.int 10)) (eC (.int 18)))) (eVar 3)))
/-- return int(remains) % 1009 % bound -/
def S6__law_number : SF :=
 (sRet (eB oMod (eB oMod (eA (o1 gInt) (aCons (eVar 5) aNil)) (eC (.int 1009))) (eVar 2)))
/-- if remains > 0: -/
def S5__law_number : SF :=
 (sIf (bV (eB (oI fun i j => decide (j < i)) (eVar 5) (eC (.int 0))))
 S6__law_number
 sNil)
/-- small = int(cell) % 1000003 -/
def S7__law_number : SF :=
 (sSet 6 (eB oMod (eA (o1 gInt) (aCons (eVar 0) aNil)) (eC (.int 1000003))))
/-- return _law_draw((small + 977 * k) * (small + 31 * k + 5), int(k) % 9 + 1, 999983) % bound -/
def S8__law_number : SF :=
 (sRet (eB oMod (eA F__law_draw (aCons (eB oMul (eB oAdd (eVar 6) (eB oMul (eC (.int 977)) (eVar 1))) (eB oAdd (eB oAdd (eVar 6) (eB oMul (eC (.int 31)) (eVar 1))) (eC (.int 5)))) (aCons (eB oAdd (eB oMod (eA (o1 gInt) (aCons (eVar 1) aNil)) (eC (.int 9))) (eC (.int 1))) (aCons (eC (.int 999983)) aNil)))) (eVar 2)))
/-- slots: 0 cell, 1 k, 2 bound, 3 scale, 4 lap, 5 remains, 6 small -/
def B__law_number : SF :=
 (sSeq S1__law_number (sSeq S2__law_number (sSeq S4__law_number (sSeq S5__law_number (sSeq S7__law_number S8__law_number)))))
def F__law_number : List PV → Sto → R PV := fnOf 3 7 B__law_number

/-- draw[2] = draw[2] + 1 -/
def S1__law_next : SF :=
 (sPut (eB oAdd (eB oIxD (eVar 0) (eC (.int 2))) (eC (.int 1))) (eVar 0) (eC (.int 2)))
/-- at = draw[2] // 12 -/
def S2__law_next : SF :=
 (sSet 2 (eB oDiv (eB oIxD (eVar 0) (eC (.int 2))) (eC (.int 12))))
/-- cell = _law_cell_at(draw[0], draw[1] + at) + 31 * at -/
def S3__law_next : SF :=
 (sSet 3 (eB oAdd (eA F__law_cell_at (aCons (eB oIxD (eVar 0) (eC (.int 0))) (aCons (eB oAdd (eB oIxD (eVar 0) (eC (.int 1))) (eVar 2)) aNil))) (eB oMul (eC (.int 31)) (eVar 2))))
/-- return _law_number(cell, int(draw[2]) % 12 + 1, bound) -/
def S4__law_next : SF :=
 (sRet (eA F__law_number (aCons (eVar 3) (aCons (eB oAdd (eB oMod (eA (o1 gInt) (aCons (eB oIxD (eVar 0) (eC (.int 2))) aNil)) (eC (.int 12))) (eC (.int 1))) (aCons (eVar 1) aNil)))))
/-- slots: 0 draw, 1 bound, 2 at, 3 cell -/
def B__law_next : SF :=
 (sSeq S1__law_next (sSeq S2__law_next (sSeq S3__law_next S4__law_next)))
def F__law_next : List PV → Sto → R PV := fnOf 2 4 B__law_next

/-- return things[_law_next(draw, len(things))] -/
def S1__law_pick : SF :=
 (sRet (eB oIxD (eVar 1) (eA F__law_next (aCons (eVar 0) (aCons (eA (o1 gLenD) (aCons (eVar 1) aNil)) aNil)))))
/-- slots: 0 draw, 1 things -/
def B__law_pick : SF :=
 S1__law_pick
def F__law_pick : List PV → Sto → R PV := fnOf 2 2 B__law_pick

/-- the list from which is drawn stands at n -/
def DrawAt (n : Nat) (st : Sto) : Prop := ∃ (ns : List Int) (k : Int), st[n]? = some (.lst [.lst (ns.map PV.int), .int 0, .int k]) ∧ 0 ≤ k
theorem cell_ok (ns : List Int) (k : Int) (hk : 0 ≤ k) (st : Sto) : ∃ c : Int, F__law_cell_at [.lst (ns.map PV.int), .int k] st = .ok (.int c) st := by
  obtain ⟨j, rfl⟩ := Int.eq_ofNat_of_zero_le hk
  by_cases h : j < ns.length
  · refine ⟨ns[j], ?_⟩
    have e : L2.atI (ns.map PV.int) (j : Int) = some (.int ns[j]) := L2.atI_nat (j := j) (by simp [h])
    simp [F__law_cell_at, fnOf, B__law_cell_at, S1__law_cell_at, S2__law_cell_at, S3__law_cell_at, sSeq, sIf, bV, eB, eVar, eA, aCons, aNil, R.bind, R.toS, gLenD, dctOf, gLen, seqOf, o1, oLt, h, sRet, oIxD, oIx, unS, e]
  · refine ⟨0, ?_⟩
    simp [F__law_cell_at, fnOf, B__law_cell_at, S1__law_cell_at, S2__law_cell_at, S3__law_cell_at, sSeq, sIf, bV, eB, eVar, eA, aCons, aNil, R.bind, R.toS, gLenD, dctOf, gLen, seqOf, o1, oLt, h, sRet, eC, sNil, unS]
def primes : List Int := [1000003, 1000033, 1000037, 1000039, 1000081, 1000099, 1000117, 1000121, 1000133, 1000151, 1000159, 1000171, 1000183, 1000187, 1000193, 1000199]
theorem draw_ok (cell k bound : Int) (hb : 0 < bound) (st : Sto) : ∃ r : Int, F__law_draw [.int cell, .int k, .int bound] st = .ok (.int r) st ∧ 0 ≤ r ∧ r < bound := by
  have h0 : 0 ≤ k % 16 := Int.emod_nonneg _ (by decide)
  have h1 : k % 16 < 16 := Int.emod_lt_of_pos _ (by decide)
  obtain ⟨p, hp, e⟩ : ∃ p : Int, 0 < p ∧ L2.atI (primes.map PV.int) (k % 16) = some (.int p) := by
    generalize k % 16 = i at h0 h1
    obtain ⟨j, rfl⟩ := Int.eq_ofNat_of_zero_le h0
    have hj : j < 16 := by omega
    have hl : j < primes.length := hj
    refine ⟨primes[j], ?_, L2.atI_nat (j := j) (by simp [hl])⟩
    have : ∀ p ∈ primes, 0 < p := by decide
    exact this _ (List.getElem_mem hl)
  refine ⟨(cell * 48271 + k * 69621) % p % bound, ?_, Int.emod_nonneg _ (by omega), Int.emod_lt_of_pos _ hb⟩
  simp only [primes, List.map] at e
  simp [F__law_draw, fnOf, B__law_draw, S1__law_draw, S2__law_draw, sSeq, sSet, eB, eVar, eA, aCons, aNil, R.bind, R.toS, eC, mkTup, LIM, oMul, oAdd, oMod, gInt, o1, oIxD, oIx, dctOf, seqOf, sRet, unS, e, hp, hb]
theorem scale_ok (cell k bound : Int) (st : Sto) (s3 : SF) (hs : s3 = S3__law_number) : ∀ (xs : List PV) (s : Int) (y : Option PV), ∃ y', forL (.nm 4) s3 xs [some (.int cell), some (.int k), some (.int bound), some (.int s), y, none, none] st =
    .nx [some (.int cell), some (.int k), some (.int bound), some (.int (s * 1009 ^ xs.length)), y', none, none] st
  | [], s, y => ⟨y, by simp [forL]⟩
  | x :: xs, s, y => by
    obtain ⟨y', e⟩ := scale_ok cell k bound st s3 hs xs (s * 1009) (some x)
    refine ⟨y', ?_⟩
    rw [show s * 1009 ^ (x :: xs).length = s * 1009 * 1009 ^ xs.length by rw [List.length_cons, Int.pow_succ, Int.mul_assoc, Int.mul_comm (1009 ^ _) 1009]]
    rw [← e]
    subst hs
    simp [forL, Tg.bind, S3__law_number, sSet, eB, eVar, eC, R.bind, R.toS, oMul]
theorem s2_ok (cell k bound : Int) (st : Sto) : ∃ (y : Option PV) (m : Nat), m < 24 ∧ S2__law_number [some (.int cell), some (.int k), some (.int bound), some (.int 1), none, none, none] st =
    .nx [some (.int cell), some (.int k), some (.int bound), some (.int (1009 ^ m)), y, none, none] st := by
  have h0 : 0 ≤ k % 24 := Int.emod_nonneg _ (by decide)
  have h1 : k % 24 < 24 := Int.emod_lt_of_pos _ (by decide)
  obtain ⟨m, hm⟩ := Int.eq_ofNat_of_zero_le h0
  have hm2 : m < 24 := by omega
  obtain ⟨y', e⟩ := scale_ok cell k bound st _ rfl (rangeL 0 m) 1 none
  have hl : (rangeL 0 m).length = m := by simp [rangeL]
  rw [hl, Int.one_mul] at e
  refine ⟨y', m, hm2, ?_⟩
  have hr : rgOk (m : Int) = true := by
    rw [rgOk, Bool.and_eq_true, decide_eq_true_iff, decide_eq_true_iff]
    omega
  simp [S2__law_number, sFor, iR1, eB, eVar, eC, eA, aCons, aNil, R.bind, R.toS, oMod, gInt, o1, hm, hr, e]
theorem number_ok (cell k bound : Int) (hb : 0 < bound) (hk : 0 ≤ k) (hk2 : k ≤ 1000) (st : Sto) : ∃ r : Int, F__law_number [.int cell, .int k, .int bound] st = .ok (.int r) st ∧ 0 ≤ r ∧ r < bound := by
  obtain ⟨y', m, hm2, e⟩ := s2_ok cell k bound st
  have hlog : (1009 ^ m : Int).natAbs.log2 < 9000 := by
    have : ∀ m < 24, (1009 ^ m : Int).natAbs.log2 < 9000 := by decide +kernel
    exact this m hm2
  have hpos : (0 : Int) < 1009 ^ m := Int.pow_pos (by decide)
  generalize (1009 ^ m : Int) = sc at e hlog hpos
  have hs0 : 0 ≤ cell % 1000003 := Int.emod_nonneg _ (by decide)
  have hs1 : cell % 1000003 < 1000003 := Int.emod_lt_of_pos _ (by decide)
  have e1 : S1__law_number [some (.int cell), some (.int k), some (.int bound), none, none, none, none] st = .nx [some (.int cell), some (.int k), some (.int bound), some (.int 1), none, none, none] st := rfl
  have e4 : S4__law_number [some (.int cell), some (.int k), some (.int bound), some (.int sc), y', none, none] st = .nx [some (.int cell), some (.int k), some (.int bound), some (.int sc), y', some (.int ((cell - 10 ^ 18) / sc)), none] st := by
    simp [S4__law_number, sSet, eB, eVar, eC, R.bind, R.toS, oSub, oPow, oDiv, hlog, hpos]
  generalize (cell - 10 ^ 18) / sc = rem at e4
  show ∃ r : Int, unS (B__law_number [some (.int cell), some (.int k), some (.int bound), none, none, none, none] st) = .ok (.int r) st ∧ 0 ≤ r ∧ r < bound
  by_cases hrem : 0 < rem
  · refine ⟨rem % 1009 % bound, ?_, Int.emod_nonneg _ (by omega), Int.emod_lt_of_pos _ hb⟩
    have e5 : S5__law_number [some (.int cell), some (.int k), some (.int bound), some (.int sc), y', some (.int rem), none] st = .rt (.int (rem % 1009 % bound)) st := by
      simp [S5__law_number, S6__law_number, sIf, sRet, bV, eB, eVar, eC, eA, aCons, aNil, o1, gInt, R.bind, R.toS, oI, oMod, hrem, hb]
    simp [B__law_number, sSeq, e1, e, e4, e5, unS]
  · have e5 : S5__law_number [some (.int cell), some (.int k), some (.int bound), some (.int sc), y', some (.int rem), none] st = .nx [some (.int cell), some (.int k), some (.int bound), some (.int sc), y', some (.int rem), none] st := by
      simp [S5__law_number, S6__law_number, sIf, sRet, bV, eB, eVar, eC, eA, aCons, aNil, o1, gInt, R.bind, R.toS, oI, oMod, hrem, hb, sNil]
    have e7 : S7__law_number [some (.int cell), some (.int k), some (.int bound), some (.int sc), y', some (.int rem), none] st = .nx [some (.int cell), some (.int k), some (.int bound), some (.int sc), y', some (.int rem), some (.int (cell % 1000003))] st := by
      simp [S7__law_number, sSet, eB, eVar, eC, eA, aCons, aNil, o1, gInt, R.bind, R.toS, oMod]
    generalize cell % 1000003 = sm at hs0 hs1 e7
    obtain ⟨r2, e2, l2, g2⟩ := draw_ok ((sm + 977 * k) * (sm + 31 * k + 5)) (k % 9 + 1) 999983 (by decide) st
    have hn : (sm + 977 * k).natAbs < 18446744073709551616 := by omega
    refine ⟨r2 % bound, ?_, Int.emod_nonneg _ (by omega), Int.emod_lt_of_pos _ hb⟩
    have e8 : S8__law_number [some (.int cell), some (.int k), some (.int bound), some (.int sc), y', some (.int rem), some (.int sm)] st = .rt (.int (r2 % bound)) st := by
      simp [S8__law_number, sRet, eB, eVar, eC, eA, aCons, aNil, o1, gInt, R.bind, R.toS, oAdd, oMul, oMod, hn, e2, hb]
    simp [B__law_number, sSeq, e1, e, e4, e5, e7, e8, unS]
theorem next_ok {n : Nat} {st : Sto} (d : DrawAt n st) (bound : Int) (hb : 0 < bound) : ∃ (r : Int) (st' : Sto), F__law_next [.loc n, .int bound] st = .ok (.int r) st' ∧ 0 ≤ r ∧ r < bound ∧ DrawAt n st' ∧ ∃ o, st' = st.set n o := by
  obtain ⟨ns, k, hn, hk⟩ := d
  have hlt : n < st.length := (List.getElem?_eq_some_iff.mp hn).1
  have h0 : 0 ≤ (k + 1) / 12 := Int.ediv_nonneg (by omega) (by decide)
  have h2 : 0 ≤ (k + 1) % 12 := Int.emod_nonneg _ (by decide)
  have h3 : (k + 1) % 12 < 12 := Int.emod_lt_of_pos _ (by decide)
  let st' := st.set n (.lst [.lst (ns.map PV.int), .int 0, .int (k + 1)])
  have hn' : st'[n]? = some (.lst [.lst (ns.map PV.int), .int 0, .int (k + 1)]) := by simp [st', hlt]
  obtain ⟨c, ec⟩ := cell_ok ns ((k + 1) / 12) h0 st'
  obtain ⟨r, er, hr1, hr2⟩ := number_ok (c + 31 * ((k + 1) / 12)) ((k + 1) % 12 + 1) bound hb (by omega) (by omega) st'
  refine ⟨r, st', ?_, hr1, hr2, ⟨ns, k + 1, hn', by omega⟩, _, rfl⟩
  have e1 : S1__law_next [some (.loc n), some (.int bound), none, none] st = .nx [some (.loc n), some (.int bound), none, none] st' := by
    simp [S1__law_next, sPut, eB, eVar, eC, R.bind, R.toS, oIxD, dctOf, hn, oIx, seqOf, L2.atI, L2.ixN, oAdd, setP, st']
  have e2 : S2__law_next [some (.loc n), some (.int bound), none, none] st' = .nx [some (.loc n), some (.int bound), some (.int ((k + 1) / 12)), none] st' := by
    simp [S2__law_next, sSet, eB, eVar, eC, R.bind, R.toS, oIxD, dctOf, hn', oIx, seqOf, L2.atI, L2.ixN, oDiv, show Nat.log2 12 < 9000 by decide +kernel]
  have e3 : S3__law_next [some (.loc n), some (.int bound), some (.int ((k + 1) / 12)), none] st' = .nx [some (.loc n), some (.int bound), some (.int ((k + 1) / 12)), some (.int (c + 31 * ((k + 1) / 12)))] st' := by
    simp [S3__law_next, sSet, eB, eVar, eC, eA, aCons, aNil, R.bind, R.toS, oIxD, dctOf, hn', oIx, seqOf, L2.atI, L2.ixN, oAdd, oMul, ec]
  have e4 : S4__law_next [some (.loc n), some (.int bound), some (.int ((k + 1) / 12)), some (.int (c + 31 * ((k + 1) / 12)))] st' = .rt (.int r) st' := by
    simp [S4__law_next, sRet, eB, eVar, eC, eA, aCons, aNil, o1, gInt, R.bind, R.toS, oIxD, dctOf, hn', oIx, seqOf, L2.atI, L2.ixN, oAdd, oMod, er]
  show unS (B__law_next [some (.loc n), some (.int bound), none, none] st) = _
  simp [B__law_next, sSeq, e1, e2, e3, e4, unS]
/-- one of the things -/
theorem pick_ok {n : Nat} {st : Sto} (d : DrawAt n st) {xs : List PV} (hx : xs ≠ []) : ∃ (x : PV) (st' : Sto), x ∈ xs ∧ F__law_pick [.loc n, .lst xs] st = .ok x st' ∧ DrawAt n st' ∧ ∃ o, st' = st.set n o := by
  have hl : (0 : Int) < xs.length := by
    have := List.length_pos_iff.mpr hx
    omega
  obtain ⟨r, st', e, h1, h2, d', o⟩ := next_ok d xs.length hl
  obtain ⟨j, rfl⟩ := Int.eq_ofNat_of_zero_le h1
  have hj : j < xs.length := by omega
  have ea : L2.atI xs (j : Int) = some xs[j] := L2.atI_nat (j := j) (by simp [hj])
  refine ⟨xs[j], st', List.getElem_mem hj, ?_, d', o⟩
  show unS (S1__law_pick [some (.loc n), some (.lst xs)] st) = _
  simp [S1__law_pick, sRet, eB, eVar, eA, aCons, aNil, o1, gLenD, gLen, dctOf, seqOf, R.bind, R.toS, e, oIxD, oIx, ea, unS]
end Draw

set_option Elab.async false
set_option linter.all false
set_option maxRecDepth 1000000
/-! K44D: words of two signs. -/
namespace K44
open Pl
abbrev S := List Nat
def ext (l : List S) : List S := (l.map fun t => 97 :: t) ++ (l.map fun t => 98 :: t)
def words : Nat → List S
  | 0 => [[]]
  | n + 1 => ext (words n)
def T (n : Nat) : List S := (List.range (n + 1)).flatMap words
def IsAB (t : S) : Prop := ∀ c ∈ t, c = 97 ∨ c = 98
theorem words_mem : ∀ (n : Nat) (t : S), t.length = n → IsAB t → t ∈ words n
  | 0, t, h, _ => by
    cases t with
    | nil => simp [words]
    | cons => simp at h
  | n + 1, t, h, a => by
    cases t with
    | nil => simp at h
    | cons c t =>
      have ih := words_mem n t (by simpa using h) fun d hd => a d (by simp [hd])
      rcases a c (by simp) with rfl | rfl
      · exact List.mem_append.mpr (.inl (List.mem_map.mpr ⟨t, ih, rfl⟩))
      · exact List.mem_append.mpr (.inr (List.mem_map.mpr ⟨t, ih, rfl⟩))
theorem T_mem {n : Nat} {t : S} (h : t.length ≤ n) (a : IsAB t) : t ∈ T n := List.mem_flatMap.mpr ⟨t.length, List.mem_range.mpr (by omega), words_mem _ t rfl a⟩
def runs (w : Nat) (t : S) : List S := (words w).filter fun r => findSub r t
def sAB : PV := .str [97, 98]
end K44

set_option Elab.async false
set_option linter.all false
set_option maxRecDepth 1000000
/-! K44A0: all texts of at most nine signs a, b, in lots of 64. -/
namespace K44
open Pl
theorem words_add (n : Nat) : ∀ (m : Nat) (t : S), t ∈ words (n + m) → ∃ u ∈ words m, ∃ s ∈ words n, t = u ++ s
  | 0, t, h => ⟨[], by simp [words], t, h, rfl⟩
  | m + 1, t, h => by
    rcases List.mem_append.mp (show t ∈ ext (words (n + m)) from h) with h | h
    · obtain ⟨t', h', rfl⟩ := List.mem_map.mp h
      obtain ⟨u, hu, s, hs, rfl⟩ := words_add n m t' h'
      exact ⟨97 :: u, List.mem_append.mpr (.inl (List.mem_map.mpr ⟨u, hu, rfl⟩)), s, hs, rfl⟩
    · obtain ⟨t', h', rfl⟩ := List.mem_map.mp h
      obtain ⟨u, hu, s, hs, rfl⟩ := words_add n m t' h'
      exact ⟨98 :: u, List.mem_append.mpr (.inr (List.mem_map.mpr ⟨u, hu, rfl⟩)), s, hs, rfl⟩
theorem T9_all {P : S → Bool} (a : (T 5).all P = true) (c0 : ((words 6).all fun t => P ([] ++ t)) = true) (c1 : ((words 6).all fun t => P ([97] ++ t)) = true) (c2 : ((words 6).all fun t => P ([98] ++ t)) = true) (c3 : ((words 6).all fun t => P ([97, 97] ++ t)) = true) (c4 : ((words 6).all fun t => P ([97, 98] ++ t)) = true) (c5 : ((words 6).all fun t => P ([98, 97] ++ t)) = true) (c6 : ((words 6).all fun t => P ([98, 98] ++ t)) = true) (c7 : ((words 6).all fun t => P ([97, 97, 97] ++ t)) = true) (c8 : ((words 6).all fun t => P ([97, 97, 98] ++ t)) = true) (c9 : ((words 6).all fun t => P ([97, 98, 97] ++ t)) = true) (c10 : ((words 6).all fun t => P ([97, 98, 98] ++ t)) = true) (c11 : ((words 6).all fun t => P ([98, 97, 97] ++ t)) = true) (c12 : ((words 6).all fun t => P ([98, 97, 98] ++ t)) = true) (c13 : ((words 6).all fun t => P ([98, 98, 97] ++ t)) = true) (c14 : ((words 6).all fun t => P ([98, 98, 98] ++ t)) = true) : ∀ t ∈ T 9, P t = true := by
  intro t h
  obtain ⟨n, hn, ht⟩ := List.mem_flatMap.mp h
  have hn2 := List.mem_range.mp hn
  by_cases h5 : n < 6
  · exact List.all_eq_true.mp a t (List.mem_flatMap.mpr ⟨n, List.mem_range.mpr h5, ht⟩)
  · obtain ⟨m, rfl⟩ : ∃ m, n = 6 + m := ⟨n - 6, by omega⟩
    obtain ⟨u, hu, r, hr, rfl⟩ := words_add 6 m t ht
    have hm : u ∈ T 3 := List.mem_flatMap.mpr ⟨m, List.mem_range.mpr (by omega), hu⟩
    have hm2 : u ∈ [[], [97], [98], [97, 97], [97, 98], [98, 97], [98, 98], [97, 97, 97], [97, 97, 98], [97, 98, 97], [97, 98, 98], [98, 97, 97], [98, 97, 98], [98, 98, 97], [98, 98, 98]] := hm
    simp only [List.mem_cons, List.not_mem_nil, or_false] at hm2
    rcases hm2 with rfl | rfl | rfl | rfl | rfl | rfl | rfl | rfl | rfl | rfl | rfl | rfl | rfl | rfl | rfl
    · exact List.all_eq_true.mp c0 r hr
    · exact List.all_eq_true.mp c1 r hr
    · exact List.all_eq_true.mp c2 r hr
    · exact List.all_eq_true.mp c3 r hr
    · exact List.all_eq_true.mp c4 r hr
    · exact List.all_eq_true.mp c5 r hr
    · exact List.all_eq_true.mp c6 r hr
    · exact List.all_eq_true.mp c7 r hr
    · exact List.all_eq_true.mp c8 r hr
    · exact List.all_eq_true.mp c9 r hr
    · exact List.all_eq_true.mp c10 r hr
    · exact List.all_eq_true.mp c11 r hr
    · exact List.all_eq_true.mp c12 r hr
    · exact List.all_eq_true.mp c13 r hr
    · exact List.all_eq_true.mp c14 r hr
end K44

set_option Elab.async false
set_option linter.all false
set_option maxRecDepth 1000000
/-! K44A1: runs of width 1. -/
namespace K44
open Pl
theorem runs1x0 : ((T 5).all fun t => (F_runs_of [sAB, .str (t), .int 1] []).is (.tup ((runs 1 (t)).map .str))) = true := by decide +kernel
theorem runs1x1 : ((words 6).all fun t => (F_runs_of [sAB, .str ([] ++ t), .int 1] []).is (.tup ((runs 1 ([] ++ t)).map .str))) = true := by decide +kernel
theorem runs1x2 : ((words 6).all fun t => (F_runs_of [sAB, .str ([97] ++ t), .int 1] []).is (.tup ((runs 1 ([97] ++ t)).map .str))) = true := by decide +kernel
theorem runs1x3 : ((words 6).all fun t => (F_runs_of [sAB, .str ([98] ++ t), .int 1] []).is (.tup ((runs 1 ([98] ++ t)).map .str))) = true := by decide +kernel
theorem runs1x4 : ((words 6).all fun t => (F_runs_of [sAB, .str ([97, 97] ++ t), .int 1] []).is (.tup ((runs 1 ([97, 97] ++ t)).map .str))) = true := by decide +kernel
theorem runs1x5 : ((words 6).all fun t => (F_runs_of [sAB, .str ([97, 98] ++ t), .int 1] []).is (.tup ((runs 1 ([97, 98] ++ t)).map .str))) = true := by decide +kernel
theorem runs1x6 : ((words 6).all fun t => (F_runs_of [sAB, .str ([98, 97] ++ t), .int 1] []).is (.tup ((runs 1 ([98, 97] ++ t)).map .str))) = true := by decide +kernel
theorem runs1x7 : ((words 6).all fun t => (F_runs_of [sAB, .str ([98, 98] ++ t), .int 1] []).is (.tup ((runs 1 ([98, 98] ++ t)).map .str))) = true := by decide +kernel
theorem runs1x8 : ((words 6).all fun t => (F_runs_of [sAB, .str ([97, 97, 97] ++ t), .int 1] []).is (.tup ((runs 1 ([97, 97, 97] ++ t)).map .str))) = true := by decide +kernel
theorem runs1x9 : ((words 6).all fun t => (F_runs_of [sAB, .str ([97, 97, 98] ++ t), .int 1] []).is (.tup ((runs 1 ([97, 97, 98] ++ t)).map .str))) = true := by decide +kernel
theorem runs1x10 : ((words 6).all fun t => (F_runs_of [sAB, .str ([97, 98, 97] ++ t), .int 1] []).is (.tup ((runs 1 ([97, 98, 97] ++ t)).map .str))) = true := by decide +kernel
theorem runs1x11 : ((words 6).all fun t => (F_runs_of [sAB, .str ([97, 98, 98] ++ t), .int 1] []).is (.tup ((runs 1 ([97, 98, 98] ++ t)).map .str))) = true := by decide +kernel
theorem runs1x12 : ((words 6).all fun t => (F_runs_of [sAB, .str ([98, 97, 97] ++ t), .int 1] []).is (.tup ((runs 1 ([98, 97, 97] ++ t)).map .str))) = true := by decide +kernel
theorem runs1x13 : ((words 6).all fun t => (F_runs_of [sAB, .str ([98, 97, 98] ++ t), .int 1] []).is (.tup ((runs 1 ([98, 97, 98] ++ t)).map .str))) = true := by decide +kernel
theorem runs1x14 : ((words 6).all fun t => (F_runs_of [sAB, .str ([98, 98, 97] ++ t), .int 1] []).is (.tup ((runs 1 ([98, 98, 97] ++ t)).map .str))) = true := by decide +kernel
theorem runs1x15 : ((words 6).all fun t => (F_runs_of [sAB, .str ([98, 98, 98] ++ t), .int 1] []).is (.tup ((runs 1 ([98, 98, 98] ++ t)).map .str))) = true := by decide +kernel
theorem runs1 : ∀ t ∈ T 9, (F_runs_of [sAB, .str (t), .int 1] []).is (.tup ((runs 1 (t)).map .str)) = true := T9_all (P := fun t => (F_runs_of [sAB, .str (t), .int 1] []).is (.tup ((runs 1 (t)).map .str))) runs1x0 runs1x1 runs1x2 runs1x3 runs1x4 runs1x5 runs1x6 runs1x7 runs1x8 runs1x9 runs1x10 runs1x11 runs1x12 runs1x13 runs1x14 runs1x15
end K44

set_option Elab.async false
set_option linter.all false
set_option maxRecDepth 1000000
/-! K44A2: runs of width 2. -/
namespace K44
open Pl
theorem runs2x0 : ((T 5).all fun t => (F_runs_of [sAB, .str (t), .int 2] []).is (.tup ((runs 2 (t)).map .str))) = true := by decide +kernel
theorem runs2x1 : ((words 6).all fun t => (F_runs_of [sAB, .str ([] ++ t), .int 2] []).is (.tup ((runs 2 ([] ++ t)).map .str))) = true := by decide +kernel
theorem runs2x2 : ((words 6).all fun t => (F_runs_of [sAB, .str ([97] ++ t), .int 2] []).is (.tup ((runs 2 ([97] ++ t)).map .str))) = true := by decide +kernel
theorem runs2x3 : ((words 6).all fun t => (F_runs_of [sAB, .str ([98] ++ t), .int 2] []).is (.tup ((runs 2 ([98] ++ t)).map .str))) = true := by decide +kernel
theorem runs2x4 : ((words 6).all fun t => (F_runs_of [sAB, .str ([97, 97] ++ t), .int 2] []).is (.tup ((runs 2 ([97, 97] ++ t)).map .str))) = true := by decide +kernel
theorem runs2x5 : ((words 6).all fun t => (F_runs_of [sAB, .str ([97, 98] ++ t), .int 2] []).is (.tup ((runs 2 ([97, 98] ++ t)).map .str))) = true := by decide +kernel
theorem runs2x6 : ((words 6).all fun t => (F_runs_of [sAB, .str ([98, 97] ++ t), .int 2] []).is (.tup ((runs 2 ([98, 97] ++ t)).map .str))) = true := by decide +kernel
theorem runs2x7 : ((words 6).all fun t => (F_runs_of [sAB, .str ([98, 98] ++ t), .int 2] []).is (.tup ((runs 2 ([98, 98] ++ t)).map .str))) = true := by decide +kernel
theorem runs2x8 : ((words 6).all fun t => (F_runs_of [sAB, .str ([97, 97, 97] ++ t), .int 2] []).is (.tup ((runs 2 ([97, 97, 97] ++ t)).map .str))) = true := by decide +kernel
theorem runs2x9 : ((words 6).all fun t => (F_runs_of [sAB, .str ([97, 97, 98] ++ t), .int 2] []).is (.tup ((runs 2 ([97, 97, 98] ++ t)).map .str))) = true := by decide +kernel
theorem runs2x10 : ((words 6).all fun t => (F_runs_of [sAB, .str ([97, 98, 97] ++ t), .int 2] []).is (.tup ((runs 2 ([97, 98, 97] ++ t)).map .str))) = true := by decide +kernel
theorem runs2x11 : ((words 6).all fun t => (F_runs_of [sAB, .str ([97, 98, 98] ++ t), .int 2] []).is (.tup ((runs 2 ([97, 98, 98] ++ t)).map .str))) = true := by decide +kernel
theorem runs2x12 : ((words 6).all fun t => (F_runs_of [sAB, .str ([98, 97, 97] ++ t), .int 2] []).is (.tup ((runs 2 ([98, 97, 97] ++ t)).map .str))) = true := by decide +kernel
theorem runs2x13 : ((words 6).all fun t => (F_runs_of [sAB, .str ([98, 97, 98] ++ t), .int 2] []).is (.tup ((runs 2 ([98, 97, 98] ++ t)).map .str))) = true := by decide +kernel
theorem runs2x14 : ((words 6).all fun t => (F_runs_of [sAB, .str ([98, 98, 97] ++ t), .int 2] []).is (.tup ((runs 2 ([98, 98, 97] ++ t)).map .str))) = true := by decide +kernel
theorem runs2x15 : ((words 6).all fun t => (F_runs_of [sAB, .str ([98, 98, 98] ++ t), .int 2] []).is (.tup ((runs 2 ([98, 98, 98] ++ t)).map .str))) = true := by decide +kernel
theorem runs2 : ∀ t ∈ T 9, (F_runs_of [sAB, .str (t), .int 2] []).is (.tup ((runs 2 (t)).map .str)) = true := T9_all (P := fun t => (F_runs_of [sAB, .str (t), .int 2] []).is (.tup ((runs 2 (t)).map .str))) runs2x0 runs2x1 runs2x2 runs2x3 runs2x4 runs2x5 runs2x6 runs2x7 runs2x8 runs2x9 runs2x10 runs2x11 runs2x12 runs2x13 runs2x14 runs2x15
end K44

set_option Elab.async false
set_option linter.all false
set_option maxRecDepth 1000000
/-! K44A3: runs of width 2, signs turned. -/
namespace K44
open Pl
theorem runsRx0 : ((T 5).all fun t => (F_runs_of [.str [98, 97], .str (t), .int 2] []).is (.tup ((runs 2 (t)).map .str))) = true := by decide +kernel
theorem runsRx1 : ((words 6).all fun t => (F_runs_of [.str [98, 97], .str ([] ++ t), .int 2] []).is (.tup ((runs 2 ([] ++ t)).map .str))) = true := by decide +kernel
theorem runsRx2 : ((words 6).all fun t => (F_runs_of [.str [98, 97], .str ([97] ++ t), .int 2] []).is (.tup ((runs 2 ([97] ++ t)).map .str))) = true := by decide +kernel
theorem runsRx3 : ((words 6).all fun t => (F_runs_of [.str [98, 97], .str ([98] ++ t), .int 2] []).is (.tup ((runs 2 ([98] ++ t)).map .str))) = true := by decide +kernel
theorem runsRx4 : ((words 6).all fun t => (F_runs_of [.str [98, 97], .str ([97, 97] ++ t), .int 2] []).is (.tup ((runs 2 ([97, 97] ++ t)).map .str))) = true := by decide +kernel
theorem runsRx5 : ((words 6).all fun t => (F_runs_of [.str [98, 97], .str ([97, 98] ++ t), .int 2] []).is (.tup ((runs 2 ([97, 98] ++ t)).map .str))) = true := by decide +kernel
theorem runsRx6 : ((words 6).all fun t => (F_runs_of [.str [98, 97], .str ([98, 97] ++ t), .int 2] []).is (.tup ((runs 2 ([98, 97] ++ t)).map .str))) = true := by decide +kernel
theorem runsRx7 : ((words 6).all fun t => (F_runs_of [.str [98, 97], .str ([98, 98] ++ t), .int 2] []).is (.tup ((runs 2 ([98, 98] ++ t)).map .str))) = true := by decide +kernel
theorem runsRx8 : ((words 6).all fun t => (F_runs_of [.str [98, 97], .str ([97, 97, 97] ++ t), .int 2] []).is (.tup ((runs 2 ([97, 97, 97] ++ t)).map .str))) = true := by decide +kernel
theorem runsRx9 : ((words 6).all fun t => (F_runs_of [.str [98, 97], .str ([97, 97, 98] ++ t), .int 2] []).is (.tup ((runs 2 ([97, 97, 98] ++ t)).map .str))) = true := by decide +kernel
theorem runsRx10 : ((words 6).all fun t => (F_runs_of [.str [98, 97], .str ([97, 98, 97] ++ t), .int 2] []).is (.tup ((runs 2 ([97, 98, 97] ++ t)).map .str))) = true := by decide +kernel
theorem runsRx11 : ((words 6).all fun t => (F_runs_of [.str [98, 97], .str ([97, 98, 98] ++ t), .int 2] []).is (.tup ((runs 2 ([97, 98, 98] ++ t)).map .str))) = true := by decide +kernel
theorem runsRx12 : ((words 6).all fun t => (F_runs_of [.str [98, 97], .str ([98, 97, 97] ++ t), .int 2] []).is (.tup ((runs 2 ([98, 97, 97] ++ t)).map .str))) = true := by decide +kernel
theorem runsRx13 : ((words 6).all fun t => (F_runs_of [.str [98, 97], .str ([98, 97, 98] ++ t), .int 2] []).is (.tup ((runs 2 ([98, 97, 98] ++ t)).map .str))) = true := by decide +kernel
theorem runsRx14 : ((words 6).all fun t => (F_runs_of [.str [98, 97], .str ([98, 98, 97] ++ t), .int 2] []).is (.tup ((runs 2 ([98, 98, 97] ++ t)).map .str))) = true := by decide +kernel
theorem runsRx15 : ((words 6).all fun t => (F_runs_of [.str [98, 97], .str ([98, 98, 98] ++ t), .int 2] []).is (.tup ((runs 2 ([98, 98, 98] ++ t)).map .str))) = true := by decide +kernel
theorem runsR : ∀ t ∈ T 9, (F_runs_of [.str [98, 97], .str (t), .int 2] []).is (.tup ((runs 2 (t)).map .str)) = true := T9_all (P := fun t => (F_runs_of [.str [98, 97], .str (t), .int 2] []).is (.tup ((runs 2 (t)).map .str))) runsRx0 runsRx1 runsRx2 runsRx3 runsRx4 runsRx5 runsRx6 runsRx7 runsRx8 runsRx9 runsRx10 runsRx11 runsRx12 runsRx13 runsRx14 runsRx15
end K44

set_option Elab.async false
set_option linter.all false
set_option maxRecDepth 1000000
/-! K44A4: what run_exactly tells of all parts of at most three; texts. -/
namespace K44
open Pl
def lex : List S → List (List S)
  | [] => [[]]
  | u :: us => [] :: ((lex us).map (u :: ·) ++ (lex us).tail)
def tbl (w : Nat) (part : S) : List (PV × PV) := ((lex (words w)).filter fun k => !(k == [[97, 97], [98, 98]])).map fun k => (.tup (k.map .str), .bl (part == [] || k.contains part))
def exact : PV := .str [101, 120, 97, 99, 116]
def apart : PV := .str [97, 112, 97, 114, 116]
def tolds : List (Nat × S × S × S) := [
  (1, [97, 97], [97], [97, 97]),
  (1, [97, 98], [98, 97], [97, 98]),
  (1, [98, 97], [97, 98], [98, 97]),
  (1, [98, 98], [97, 98], [97, 98, 98]),
  (1, [97, 97, 97], [97], [97, 97, 97]),
  (1, [97, 97, 98], [97, 98], [97, 97, 98]),
  (1, [97, 98, 97], [97, 98], [97, 98, 97]),
  (1, [97, 98, 98], [97, 98], [97, 98, 98]),
  (1, [98, 97, 97], [97, 98], [98, 97, 97]),
  (1, [98, 97, 98], [97, 98], [98, 97, 98]),
  (1, [98, 98, 97], [97, 98], [98, 98, 97]),
  (1, [98, 98, 98], [97, 98], [97, 98, 98, 98]),
  (2, [97], [], [97]),
  (2, [98], [], [98]),
  (2, [97, 97, 97], [97, 97], [97, 97, 97]),
  (2, [97, 97, 98], [97, 98, 97, 97], [97, 97, 98, 97]),
  (2, [97, 98, 97], [98, 97, 97, 98], [97, 97, 98, 97]),
  (2, [97, 98, 98], [98, 98, 97, 97, 98], [97, 97, 98, 98, 97]),
  (2, [98, 97, 97], [97, 97, 98, 97], [97, 98, 97, 97]),
  (2, [98, 97, 98], [97, 97, 98, 97], [97, 97, 98, 97, 98]),
  (2, [98, 98, 97], [98, 97, 97, 98, 98], [97, 97, 98, 98, 97]),
  (2, [98, 98, 98], [97, 97, 98, 98, 97], [97, 97, 98, 98, 98, 97])]
theorem tolds_exact1 : ([[], [97], [98]].all fun p => (F_run_exactly [sAB, .int 1, .str p] []).is (.tup [exact, .dct (tbl 1 p)])) = true := by decide +kernel
theorem tolds_e20 : (F_run_exactly [sAB, .int 2, .str []] []).is (.tup [exact, .dct (tbl 2 [])]) = true := by decide +kernel
theorem tolds_e21 : (F_run_exactly [sAB, .int 2, .str [97, 97]] []).is (.tup [exact, .dct (tbl 2 [97, 97])]) = true := by decide +kernel
theorem tolds_e22 : (F_run_exactly [sAB, .int 2, .str [97, 98]] []).is (.tup [exact, .dct (tbl 2 [97, 98])]) = true := by decide +kernel
theorem tolds_e23 : (F_run_exactly [sAB, .int 2, .str [98, 97]] []).is (.tup [exact, .dct (tbl 2 [98, 97])]) = true := by decide +kernel
theorem tolds_e24 : (F_run_exactly [sAB, .int 2, .str [98, 98]] []).is (.tup [exact, .dct (tbl 2 [98, 98])]) = true := by decide +kernel
theorem tolds_exact2 : ([[], [97, 97], [97, 98], [98, 97], [98, 98]].all fun p => (F_run_exactly [sAB, .int 2, .str p] []).is (.tup [exact, .dct (tbl 2 p)])) = true := by
  simp only [List.all_cons, List.all_nil, tolds_e20, tolds_e21, tolds_e22, tolds_e23, tolds_e24]
  rfl
theorem tolds_ap0 : (F_run_exactly [sAB, .int 1, .str [97, 97]] []).is (.tup [apart, .str [97], .str [97, 97]]) = true := by decide +kernel
theorem tolds_ap1 : (F_run_exactly [sAB, .int 1, .str [97, 98]] []).is (.tup [apart, .str [98, 97], .str [97, 98]]) = true := by decide +kernel
theorem tolds_ap2 : (F_run_exactly [sAB, .int 1, .str [98, 97]] []).is (.tup [apart, .str [97, 98], .str [98, 97]]) = true := by decide +kernel
theorem tolds_ap3 : (F_run_exactly [sAB, .int 1, .str [98, 98]] []).is (.tup [apart, .str [97, 98], .str [97, 98, 98]]) = true := by decide +kernel
theorem tolds_ap4 : (F_run_exactly [sAB, .int 1, .str [97, 97, 97]] []).is (.tup [apart, .str [97], .str [97, 97, 97]]) = true := by decide +kernel
theorem tolds_ap5 : (F_run_exactly [sAB, .int 1, .str [97, 97, 98]] []).is (.tup [apart, .str [97, 98], .str [97, 97, 98]]) = true := by decide +kernel
theorem tolds_ap6 : (F_run_exactly [sAB, .int 1, .str [97, 98, 97]] []).is (.tup [apart, .str [97, 98], .str [97, 98, 97]]) = true := by decide +kernel
theorem tolds_ap7 : (F_run_exactly [sAB, .int 1, .str [97, 98, 98]] []).is (.tup [apart, .str [97, 98], .str [97, 98, 98]]) = true := by decide +kernel
theorem tolds_ap8 : (F_run_exactly [sAB, .int 1, .str [98, 97, 97]] []).is (.tup [apart, .str [97, 98], .str [98, 97, 97]]) = true := by decide +kernel
theorem tolds_ap9 : (F_run_exactly [sAB, .int 1, .str [98, 97, 98]] []).is (.tup [apart, .str [97, 98], .str [98, 97, 98]]) = true := by decide +kernel
theorem tolds_ap10 : (F_run_exactly [sAB, .int 1, .str [98, 98, 97]] []).is (.tup [apart, .str [97, 98], .str [98, 98, 97]]) = true := by decide +kernel
theorem tolds_ap11 : (F_run_exactly [sAB, .int 1, .str [98, 98, 98]] []).is (.tup [apart, .str [97, 98], .str [97, 98, 98, 98]]) = true := by decide +kernel
theorem tolds_ap12 : (F_run_exactly [sAB, .int 2, .str [97]] []).is (.tup [apart, .str [], .str [97]]) = true := by decide +kernel
theorem tolds_ap13 : (F_run_exactly [sAB, .int 2, .str [98]] []).is (.tup [apart, .str [], .str [98]]) = true := by decide +kernel
theorem tolds_ap14 : (F_run_exactly [sAB, .int 2, .str [97, 97, 97]] []).is (.tup [apart, .str [97, 97], .str [97, 97, 97]]) = true := by decide +kernel
theorem tolds_ap15 : (F_run_exactly [sAB, .int 2, .str [97, 97, 98]] []).is (.tup [apart, .str [97, 98, 97, 97], .str [97, 97, 98, 97]]) = true := by decide +kernel
theorem tolds_ap16 : (F_run_exactly [sAB, .int 2, .str [97, 98, 97]] []).is (.tup [apart, .str [98, 97, 97, 98], .str [97, 97, 98, 97]]) = true := by decide +kernel
theorem tolds_ap17 : (F_run_exactly [sAB, .int 2, .str [97, 98, 98]] []).is (.tup [apart, .str [98, 98, 97, 97, 98], .str [97, 97, 98, 98, 97]]) = true := by decide +kernel
theorem tolds_ap18 : (F_run_exactly [sAB, .int 2, .str [98, 97, 97]] []).is (.tup [apart, .str [97, 97, 98, 97], .str [97, 98, 97, 97]]) = true := by decide +kernel
theorem tolds_ap19 : (F_run_exactly [sAB, .int 2, .str [98, 97, 98]] []).is (.tup [apart, .str [97, 97, 98, 97], .str [97, 97, 98, 97, 98]]) = true := by decide +kernel
theorem tolds_ap20 : (F_run_exactly [sAB, .int 2, .str [98, 98, 97]] []).is (.tup [apart, .str [98, 97, 97, 98, 98], .str [97, 97, 98, 98, 97]]) = true := by decide +kernel
theorem tolds_ap21 : (F_run_exactly [sAB, .int 2, .str [98, 98, 98]] []).is (.tup [apart, .str [97, 97, 98, 98, 97], .str [97, 97, 98, 98, 98, 97]]) = true := by decide +kernel
theorem tolds_apart : (tolds.all fun q => (F_run_exactly [sAB, .int q.1, .str q.2.1] []).is (.tup [apart, .str q.2.2.1, .str q.2.2.2])) = true := by
  refine List.all_eq_true.mpr fun q h => ?_
  simp only [tolds, List.mem_cons, List.not_mem_nil, or_false] at h
  rcases h with rfl | rfl | rfl | rfl | rfl | rfl | rfl | rfl | rfl | rfl | rfl | rfl | rfl | rfl | rfl | rfl | rfl | rfl | rfl | rfl | rfl | rfl
  · exact tolds_ap0
  · exact tolds_ap1
  · exact tolds_ap2
  · exact tolds_ap3
  · exact tolds_ap4
  · exact tolds_ap5
  · exact tolds_ap6
  · exact tolds_ap7
  · exact tolds_ap8
  · exact tolds_ap9
  · exact tolds_ap10
  · exact tolds_ap11
  · exact tolds_ap12
  · exact tolds_ap13
  · exact tolds_ap14
  · exact tolds_ap15
  · exact tolds_ap16
  · exact tolds_ap17
  · exact tolds_ap18
  · exact tolds_ap19
  · exact tolds_ap20
  · exact tolds_ap21
def tblC (p : S) : List (PV × PV) := (lex [[97], [98], [99]]).map fun k => (.tup (k.map .str), .bl (p == [] || k.contains p))
theorem tolds_abc : ((T 1).all fun p => (F_run_exactly [.str [97, 98, 99], .int 1, .str p] []).is (.tup [exact, .dct (tblC p)])) = true := by decide +kernel
/-- what is known of each text -/
def lookOk (w : Nat) (p t : S) : Bool := match dVal (tbl w p) (.tup ((runs w t).map .str)) with
  | some (.bl b) => b == findSub p t
  | _ => false
theorem look1 : ([[], [97], [98]].all fun p => (T 9).all fun t => lookOk 1 p t) = true := by decide +kernel
theorem look2 : ([[], [97, 97], [97, 98], [98, 97], [98, 98]].all fun p => (T 9).all fun t => lookOk 2 p t) = true := by decide +kernel
def rowB (w : Nat) (p t : S) : Bool := (runs w p).all fun r => findSub r t
/-- parts of one width -/
theorem partW : ([1, 2].all fun w => (words w).all fun p => (T 9).all fun t => rowB w p t == findSub p t) = true := by decide +kernel
theorem dueRow : ([1, 2].all fun w => (T 3).all fun p => (T 9).all fun t => !findSub p t || rowB w p t) = true := by decide +kernel
theorem wideRow : ((T 3).all fun p => decide (p.length < 2) || (T 9).all fun t => !rowB 2 p t || rowB 1 p t) = true := by decide +kernel
theorem tailRuns : ([1, 2].all fun w => (T 9).all fun t => (runs w (t.drop 1)).all fun r => (runs w t).contains r) = true := by decide +kernel
def swap (t : S) : S := t.map fun c => if c = 97 then 98 else 97
theorem swapRuns : ([1, 2].all fun w => (T 9).all fun t => (runs w (swap t)).length == (runs w t).length) = true := by decide +kernel
theorem shortRuns : ([1, 2].all fun w => (T 9).all fun t => decide (w ≤ t.length) || (runs w t).isEmpty) = true := by decide +kernel
theorem revSub : ((T 3).all fun p => (T 9).all fun t => findSub p.reverse t.reverse == findSub p t) = true := by decide +kernel
theorem noRuns : ([1, 2].all fun w => (T 3).all fun p => (runs w p).isEmpty == decide (p.length < w)) = true := by decide +kernel
end K44

set_option Elab.async false
set_option linter.all false
set_option maxRecDepth 1000000
/-! K44B: what the functions of the runs answer. -/
namespace K44
open Pl
def IsT (t : S) : Prop := t.length ≤ 9 ∧ IsAB t
/-- the signs, in one order or the other -/
def IsSg (s : S) : Prop := s = [97, 98] ∨ s = [98, 97]
theorem signs_ok {s : S} (h : IsSg s) (st : Sto) : frm F_check_signs [.str s] st = .ok .non st := by
  rcases h with rfl | rfl <;> exact frm_is (by decide +kernel) rfl rfl st
theorem boolsP_true {α : Type} (f : α → PV) : ∀ l : List α, (∀ x ∈ l, f x = .bl true) → boolsP (l.map f) = some (l.map fun _ => true)
  | [], _ => rfl
  | x :: l, h => by simp [boolsP, h x (by simp), boolsP_true f l fun y hy => h y (by simp [hy])]
theorem run_ok {s t : S} (hs : IsSg s) (h : IsT t) (st : Sto) : frm F_check_run [.str s, .str t] st = .ok .non st := by
  refine frm_ok (s := []) ?_ rfl rfl st
  have hl : lcL (.nm 2) bYes (eB (oInD false) (eVar 2) (eVar 0)) [some (.str s), some (.str t), none] (t.map fun x => .str [x]) [] = .ok ((t.map fun x => PV.str [x]).map fun _ => .bl true) [] := by
    have e := lcL_pure (t := .nm 2) (c := bYes) (f := eB (oInD false) (eVar 2) (eVar 0)) (η := [some (.str s), some (.str t), none]) (st := []) (fun x => [some (.str s), some (.str t), some x]) (fun _ => true) (fun _ => .bl true) (t.map fun x => .str [x]) fun x hx => by
      obtain ⟨c, hc, rfl⟩ := List.mem_map.mp hx
      refine ⟨rfl, rfl, fun _ => ?_⟩
      have : findSub [c] s = true := by
        rcases hs with rfl | rfl <;> rcases h.2 c hc with rfl | rfl <;> rfl
      simp [eB, eVar, R.bind, oInD, dctOf, oIn, seqOf, this]
    rw [e, List.filter_eq_self.mpr (fun _ _ => rfl)]
  have h1 : S1_check_run [some (.str s), some (.str t), none] [] = .nx [some (.str s), some (.str t), none] [] := by
    simp [S1_check_run, sEx, eA, aCons, aNil, eVar, R.bind, R.toS, signs_ok hs]
  have h2 : S2_check_run [some (.str s), some (.str t), none] [] = .nx [some (.str s), some (.str t), none] [] := by
    have l1 : t.length ≤ LIM := by
      have := h.1
      unfold LIM
      omega
    have l2 : ¬ ((200 : Int) < t.length) := by
      have := h.1
      omega
    have l3 : (t.map fun _ => PV.bl true).length ≤ LIM := by simpa using l1
    have hb := boolsP_true (fun _ : Nat => PV.bl true) t fun _ _ => rfl
    simp [S2_check_run, sIf, bOr, bNot, bV, eA, aCons, aNil, eVar, eC, R.bind, R.toS, o2, o1, gIsi, PV.kd, isTy, gLenD, gLen, dctOf, eB, oI, eLC, iAny, iterP, wipeE, hl, l1, l2, mkLst, gBools, lstOf, seqOf, List.map_map, sNil, Function.comp_def, hb, List.all_eq_true.mpr (fun _ _ => rfl)]
  show unS (B_check_run [some (.str s), some (.str t), none] []) = _
  simp [B_check_run, sSeq, h1, h2, unS]
theorem width_ok {w : Nat} (h : w = 1 ∨ w = 2) (st : Sto) : frm F_check_width [.int w] st = .ok .non st := by
  rcases h with rfl | rfl <;> exact frm_is (by decide +kernel) rfl rfl st
/-- the runs are told right -/
def RunsOk (s : S) (w : Nat) : Prop := IsSg s ∧ (w = 1 ∨ w = 2) ∧ ∀ t, IsT t → ∀ st, frm F_runs_of [.str s, .str t, .int w] st = .ok (.tup ((runs w t).map .str)) st
/-! ### postings -/
abbrev Acc := List (S × List Int)
def accP (a : Acc) : List (PV × PV) := a.map fun q => (.str q.1, .tup (q.2.map .int))
def look : Acc → S → Option (List Int)
  | [], _ => none
  | q :: a, r => if q.1 = r then some q.2 else look a r
def addA : Acc → S → Int → Acc
  | [], r, i => [(r, [i])]
  | q :: a, r, i => if q.1 = r then (q.1, q.2 ++ [i]) :: a else q :: addA a r i
theorem dVal_acc : ∀ (a : Acc) (r : S), dVal (accP a) (.str r) = (look a r).map fun l => .tup (l.map .int)
  | [], _ => rfl
  | q :: a, r => by
    show (match PV.eqv (.str q.1) (.str r) with
      | true => _
      | false => dVal (accP a) (.str r)) = _
    simp only [PV.eqv, look]
    by_cases h : q.1 = r
    · simp [h]
    · simp [h, beq_eq_false_iff_ne.mpr h, dVal_acc a r]
theorem dPut_acc : ∀ (a : Acc) (r : S) (i : Int), dPut (accP a) (.str r) (.tup (((look a r).getD [] ++ [i]).map .int)) = accP (addA a r i)
  | [], _, _ => rfl
  | q :: a, r, i => by
    show (match PV.eqv (.str q.1) (.str r) with
      | true => (PV.str q.1, _) :: accP a
      | false => (PV.str q.1, .tup (q.2.map .int)) :: dPut (accP a) (.str r) _) = _
    simp only [PV.eqv, look, addA]
    by_cases h : q.1 = r
    · simp [h, accP]
    · have ih := dPut_acc a r i
      simp only [h, if_false, beq_eq_false_iff_ne.mpr h]
      rw [ih]
      simp [accP]
theorem okKey_acc (a : Acc) (r : S) : okKey (accP a) (.str r) = true := by
  simp [okKey, PV.hk, accP, PV.isTup]
theorem look_add : ∀ (a : Acc) (r r' : S) (i : Int), look (addA a r i) r' = if r = r' then some ((look a r).getD [] ++ [i]) else look a r'
  | [], r, r', i => by simp [addA, look]
  | q :: a, r, r', i => by
    simp only [addA, look]
    by_cases h : q.1 = r
    · by_cases h2 : r = r'
      · simp [h, h2, look]
      · simp [h, h2, look]
    · by_cases h2 : r = r'
      · subst h2
        simp [h, look, look_add a r r i]
      · by_cases h3 : q.1 = r'
        · have h4 : ¬ r' = r := fun z => h2 z.symm
          simp [h, h2, h3, h4, look]
        · simp [h, h2, h3, look, look_add a r r' i]
theorem len_add : ∀ (a : Acc) (r : S) (i : Int), (addA a r i).length ≤ a.length + 1
  | [], _, _ => by simp [addA]
  | q :: a, r, i => by
    simp only [addA]
    have := len_add a r i
    split <;> simp <;> omega
theorem keys_add : ∀ (a : Acc) (r : S) (i : Int) (x : S), x ∈ (addA a r i).map (·.1) ↔ x = r ∨ x ∈ a.map (·.1)
  | [], r, i, x => by simp [addA]
  | q :: a, r, i, x => by
    simp only [addA]
    by_cases h : q.1 = r
    · simp only [h, if_true, List.map_cons, List.mem_cons]
      constructor
      · rintro (e | e)
        · exact .inl e
        · exact .inr (.inr e)
      · rintro (e | e | e)
        · exact .inl e
        · exact .inl e
        · exact .inr e
    · have := keys_add a r i x
      simp only [h, if_false, List.map_cons, List.mem_cons, this]
      constructor
      · rintro (e | e | e)
        · exact .inr (.inl e)
        · exact .inl e
        · exact .inr (.inr e)
      · rintro (e | e | e)
        · exact .inr (.inl e)
        · exact .inl e
        · exact .inr (.inr e)
theorem nd_add : ∀ (a : Acc) (r : S) (i : Int), (a.map (·.1)).Nodup → ((addA a r i).map (·.1)).Nodup
  | [], r, i, _ => by simp [addA]
  | q :: a, r, i, h => by
    simp only [List.map_cons, List.nodup_cons] at h
    simp only [addA]
    by_cases e : q.1 = r
    · simp only [e, if_true, List.map_cons, List.nodup_cons]
      exact ⟨e ▸ h.1, h.2⟩
    · simp only [e, if_false, List.map_cons, List.nodup_cons]
      refine ⟨fun m => ?_, nd_add a r i h.2⟩
      rcases (keys_add a r i q.1).mp m with m | m
      · exact e m
      · exact h.1 m
def addAll (i : Int) : List S → Acc → Acc
  | [], a => a
  | r :: rs, a => addAll i rs (addA a r i)
def build (w : Nat) : Nat → List S → Acc → Acc
  | _, [], a => a
  | i, t :: ts, a => build w (i + 1) ts (addAll i (runs w t) a)
def idx (p : S → Bool) : Nat → List S → List Int
  | _, [] => []
  | i, t :: ts => if p t = true then (i : Int) :: idx p (i + 1) ts else idx p (i + 1) ts
theorem look_addAll (i : Int) : ∀ (rs : List S) (a : Acc) (r : S), rs.Nodup → look (addAll i rs a) r = if r ∈ rs then some ((look a r).getD [] ++ [i]) else look a r
  | [], a, r, _ => by simp [addAll]
  | q :: rs, a, r, h => by
    simp only [List.nodup_cons] at h
    rw [addAll, look_addAll i rs _ r h.2, look_add]
    by_cases e : q = r
    · subst e
      simp [h.1]
    · have e2 : ¬ r = q := fun z => e z.symm
      simp [e, e2]
theorem keys_addAll (i : Int) : ∀ (rs : List S) (a : Acc) (x : S), x ∈ (addAll i rs a).map (·.1) ↔ x ∈ rs ∨ x ∈ a.map (·.1)
  | [], a, x => by simp [addAll]
  | q :: rs, a, x => by
    rw [addAll, keys_addAll i rs _ x, keys_add]
    simp only [List.mem_cons]
    constructor
    · rintro (h | h | h)
      · exact .inl (.inr h)
      · exact .inl (.inl h)
      · exact .inr h
    · rintro ((h | h) | h)
      · exact .inr (.inl h)
      · exact .inl h
      · exact .inr (.inr h)
theorem nd_addAll (i : Int) : ∀ (rs : List S) (a : Acc), (a.map (·.1)).Nodup → ((addAll i rs a).map (·.1)).Nodup
  | [], a, h => h
  | q :: rs, a, h => nd_addAll i rs _ (nd_add a q i h)
theorem words_nd {w : Nat} (h : w = 1 ∨ w = 2) : (words w).Nodup := by rcases h with rfl | rfl <;> decide
theorem runs_nd {w : Nat} (h : w = 1 ∨ w = 2) (t : S) : (runs w t).Nodup := (words_nd h).filter _
theorem mem_runs {w : Nat} {r t : S} : r ∈ runs w t ↔ r ∈ words w ∧ findSub r t = true := by simp [runs]
theorem look_build {w : Nat} (h : w = 1 ∨ w = 2) {r : S} (hr : r ∈ words w) : ∀ (ts : List S) (i : Nat) (a : Acc), (look (build w i ts a) r).getD [] = (look a r).getD [] ++ idx (findSub r) i ts ∧ ((look (build w i ts a) r).isSome = ((look a r).isSome || ts.any (findSub r)))
  | [], i, a => by simp [build, idx]
  | t :: ts, i, a => by
    obtain ⟨h1, h2⟩ := look_build h hr ts (i + 1) (addAll i (runs w t) a)
    rw [look_addAll _ _ _ _ (runs_nd h t)] at h1 h2
    rw [build, h1, h2]
    cases e : findSub r t with
    | true =>
      have m : r ∈ runs w t := mem_runs.mpr ⟨hr, e⟩
      simp [m, idx, e]
    | false =>
      have m : ¬ r ∈ runs w t := fun z => by
        have := (mem_runs.mp z).2
        rw [e] at this
        cases this
      simp [m, idx, e]
theorem keys_build {w : Nat} : ∀ (ts : List S) (i : Nat) (a : Acc), (∀ x ∈ a.map (·.1), x ∈ words w) → ∀ x ∈ (build w i ts a).map (·.1), x ∈ words w
  | [], i, a, h => h
  | t :: ts, i, a, h => keys_build ts (i + 1) _ fun x m => by
    rcases (keys_addAll _ _ _ x).mp m with m | m
    · exact (mem_runs.mp m).1
    · exact h x m
theorem nd_build {w : Nat} : ∀ (ts : List S) (i : Nat) (a : Acc), (a.map (·.1)).Nodup → ((build w i ts a).map (·.1)).Nodup
  | [], i, a, h => h
  | t :: ts, i, a, h => nd_build ts (i + 1) _ (nd_addAll _ _ _ h)
theorem look_mem : ∀ (a : Acc) (r : S), r ∈ a.map (·.1) ↔ (look a r).isSome = true
  | [], r => by simp [look]
  | q :: a, r => by
    simp only [List.map_cons, List.mem_cons, look]
    by_cases h : q.1 = r
    · simp [h]
    · have h2 : ¬ r = q.1 := fun z => h z.symm
      simp [h, h2, look_mem a r]
end K44

set_option Elab.async false
set_option linter.all false
set_option maxRecDepth 1000000
/-! K44C: postings, what may have a part, searches. -/
namespace K44
open Pl
theorem bl1 : Nat.blt 97 97 = false := rfl
theorem bl2 : Nat.blt 97 98 = true := rfl
theorem bl3 : Nat.blt 98 97 = false := rfl
theorem bl4 : Nat.blt 98 98 = false := rfl
theorem be1 : Nat.beq 97 97 = true := rfl
theorem be2 : Nat.beq 97 98 = false := rfl
theorem be3 : Nat.beq 98 97 = false := rfl
theorem be4 : Nat.beq 98 98 = true := rfl
theorem ins_words {w : Nat} (h : w = 1 ∨ w = 2) (p : S → Bool) (k : S) (hk : k ∈ words w) (hp : p k = false) : insP PV.lt (.str k) (((words w).filter p).map .str) = ((words w).filter fun u => p u || u == k).map .str := by
  rcases h with rfl | rfl
  · simp [words, ext] at hk
    rcases hk with rfl | rfl
    · cases h1 : p [98] <;> simp [words, ext, List.filter, hp, h1, insP, PV.lt, natsLt, bl1, bl2, bl3, bl4, be1, be2, be3, be4]
    · cases h1 : p [97] <;> simp [words, ext, List.filter, hp, h1, insP, PV.lt, natsLt, bl1, bl2, bl3, bl4, be1, be2, be3, be4]
  · simp [words, ext] at hk
    rcases hk with rfl | rfl | rfl | rfl
    · cases h1 : p [97, 98] <;> cases h2 : p [98, 97] <;> cases h3 : p [98, 98] <;> simp [words, ext, List.filter, hp, h1, h2, h3, insP, PV.lt, natsLt, bl1, bl2, bl3, bl4, be1, be2, be3, be4]
    · cases h1 : p [97, 97] <;> cases h2 : p [98, 97] <;> cases h3 : p [98, 98] <;> simp [words, ext, List.filter, hp, h1, h2, h3, insP, PV.lt, natsLt, bl1, bl2, bl3, bl4, be1, be2, be3, be4]
    · cases h1 : p [97, 97] <;> cases h2 : p [97, 98] <;> cases h3 : p [98, 98] <;> simp [words, ext, List.filter, hp, h1, h2, h3, insP, PV.lt, natsLt, bl1, bl2, bl3, bl4, be1, be2, be3, be4]
    · cases h1 : p [97, 97] <;> cases h2 : p [97, 98] <;> cases h3 : p [98, 97] <;> simp [words, ext, List.filter, hp, h1, h2, h3, insP, PV.lt, natsLt, bl1, bl2, bl3, bl4, be1, be2, be3, be4]
theorem sort_words {w : Nat} (h : w = 1 ∨ w = 2) : ∀ ks : List S, ks.Nodup → (∀ k ∈ ks, k ∈ words w) → sortP PV.lt (ks.map .str) = ((words w).filter fun u => ks.contains u).map .str
  | [], _, _ => by simp [sortP]
  | k :: ks, nd, sub => by
    simp only [List.nodup_cons] at nd
    show insP PV.lt (.str k) (sortP PV.lt (ks.map .str)) = _
    rw [sort_words h ks nd.2 fun x m => sub x (by simp [m]), ins_words h _ k (sub k (by simp)) (by simpa using nd.1)]
    congr 1
    apply List.filter_congr
    intro u _
    simp only [List.contains_cons]
    cases u == k <;> simp
theorem pls_str (n : Nat) : ∀ l : List S, PV.pls n (l.map .str) = true
  | [] => rfl
  | x :: l => by simp [PV.pls, PV.pl, pls_str n l]
theorem pls_int (n : Nat) : ∀ l : List Int, PV.pls n (l.map .int) = true
  | [] => rfl
  | x :: l => by simp [PV.pls, PV.pl, pls_int n l]
theorem sortOk_str (l : List S) : sortOk (l.map .str) = true := by
  simp [sortOk, pls_str, allAlk, PV.alk, PV.isTup, PV.isNon]
theorem sorted_ok {l : List S} (h : l.length ≤ LIM) {st : Sto} {x : PV} (e : itemsOf st x = some (l.map .str)) : gSorted x st = .ok (.lst (sortP PV.lt (l.map .str))) st := by
  simp [gSorted, e, sortOk_str, h]
section
variable {s : S} {w : Nat} {tx : PV} {tp : PV}
abbrev etaP (s : S) (tx : PV) (w : Nat) (x : Option PV) (i y : Option PV) : En := [some (.str s), some tx, some (.int w), x, some (.loc 0), i, y]
theorem look_len_add {a : Acc} {r r' : S} {i : Int} {m : Nat} (h : ∀ r, ((look a r).getD []).length ≤ m) : ((look (addA a r i) r').getD []).length ≤ m + 1 := by
  rw [look_add]
  split
  · have := h r
    simp
    omega
  · have := h r'
    omega
theorem s10 {a : Acc} {r : S} {i : Int} (x : Option PV) (hm : ∀ r, ((look a r).getD []).length ≤ 1000) (hl : a.length ≤ 1000) : S10_run_postings (etaP s tx w x (some (.int i)) (some (.str r))) [.dct false (accP a)] = .nx (etaP s tx w x (some (.int i)) (some (.str r))) [.dct false (accP (addA a r i))] := by
  have e1 : ∀ η : En, η = etaP s tx w x (some (.int i)) (some (.str r)) → aStar (eM 5 (m2 gGet2) (eVar 4) (aCons (eVar 6) (aCons (eA mkTup aNil) aNil))) (aCons (eVar 5) aNil) η [.dct false (accP a)] = .ok (((look a r).getD [] ++ [i]).map .int) [.dct false (accP a)] := by
    rintro η rfl
    have hd := dVal_acc a r
    cases hr : look a r with
    | none => simp [aStar, eM, eVar, R.bind, PV.kd, aCons, eA, aNil, mkTup, m2, gGet2, dctOf, okKey_acc, hd, hr, seqOf]
    | some l => simp [aStar, eM, eVar, R.bind, PV.kd, aCons, eA, aNil, mkTup, m2, gGet2, dctOf, okKey_acc, hd, hr, seqOf]
  have l1 : (((look a r).getD [] ++ [i]).map PV.int).length ≤ LIM := by
    have := hm r
    simp [LIM]
    omega
  have l2 : (accP (addA a r i)).length ≤ LIM := by
    have := len_add a r i
    simp [accP, LIM]
    omega
  have hp := dPut_acc a r i
  simp only [List.map_append, List.map_cons, List.map_nil] at hp
  simp only [S10_run_postings, sPut, eA, e1 _ rfl, R.bind, mkTup, l1, if_true, R.toS]
  simp [eVar, R.toS, setP, okKey_acc, hp, l2]
theorem inner {i : Int} (x : Option PV) : ∀ (rs : List S) (a : Acc) (m : Nat) (y : Option PV), (∀ r, ((look a r).getD []).length ≤ m) → a.length ≤ m → m + rs.length ≤ 1000 →
    ∃ y', forL (.nm 6) S10_run_postings (rs.map .str) (etaP s tx w x (some (.int i)) y) [.dct false (accP a)] = .nx (etaP s tx w x (some (.int i)) y') [.dct false (accP (addAll i rs a))]
  | [], a, m, y, _, _, _ => ⟨y, rfl⟩
  | r :: rs, a, m, y, h1, h2, h3 => by
    have h3' : m + rs.length + 1 ≤ 1000 := by
      simp at h3
      omega
    obtain ⟨y', e⟩ := inner x rs (addA a r i) (m + 1) (some (.str r)) (fun r' => look_len_add h1) (by
      have := len_add a r i
      omega) (by omega)
    refine ⟨y', ?_⟩
    have es : S10_run_postings (etaP s tx w x (some (.int i)) (some (.str r))) [.dct false (accP a)] = _ := s10 x (fun r => by
      have := h1 r
      omega) (by omega)
    show forL (.nm 6) S10_run_postings (.str r :: rs.map .str) _ _ = _
    simp only [forL, Tg.bind]
    rw [show (etaP s tx w x (some (.int i)) y).set 6 (some (.str r)) = etaP s tx w x (some (.int i)) (some (.str r)) from rfl]
    rw [es]
    exact e
theorem addAll_len (i : Int) : ∀ (rs : List S) (a : Acc) (m : Nat), (∀ r, ((look a r).getD []).length ≤ m) → a.length ≤ m → (∀ r, ((look (addAll i rs a) r).getD []).length ≤ m + rs.length) ∧ (addAll i rs a).length ≤ m + rs.length
  | [], a, m, h1, h2 => ⟨h1, h2⟩
  | r :: rs, a, m, h1, h2 => by
    obtain ⟨g1, g2⟩ := addAll_len i rs (addA a r i) (m + 1) (fun r' => look_len_add h1) (by
      have := len_add a r i
      omega)
    refine ⟨fun r' => ?_, ?_⟩
    · have := g1 r'
      simp only [addAll, List.length_cons]
      omega
    · simp only [addAll, List.length_cons]
      omega
theorem runs_len {w : Nat} (h : w = 1 ∨ w = 2) (t : S) : (runs w t).length ≤ 2 * w := by
  have := List.length_filter_le (fun r => findSub r t) (words w)
  rcases h with rfl | rfl <;> exact this
theorem outer {w : Nat} (RK : RunsOk s w) : ∀ (ts : List S) (i : Nat) (a : Acc) (m : Nat) (x : Option PV) (z y : Option PV), (∀ t ∈ ts, IsT t) → (∀ r, ((look a r).getD []).length ≤ m) → a.length ≤ m → m + 4 * ts.length ≤ 1000 →
    ∃ x' z' y', forL (.tp [.nm 5, .nm 3]) S9_run_postings (enumP i (ts.map .str)) (etaP s tx w x z y) [.dct false (accP a)] = .nx (etaP s tx w x' z' y') [.dct false (accP (build w i ts a))]
  | [], i, a, m, x, z, y, _, _, _, _ => ⟨x, z, y, rfl⟩
  | t :: ts, i, a, m, x, z, y, ht, h1, h2, h3 => by
    have rl := runs_len RK.2.1 t
    have w2 : w ≤ 2 := by
      rcases RK.2.1 with rfl | rfl <;> decide
    have h3' : m + 4 * ts.length + 4 ≤ 1000 := by
      simp at h3
      omega
    obtain ⟨g1, g2⟩ := addAll_len (i : Int) (runs w t) a m h1 h2
    obtain ⟨y1, e1⟩ := inner (s := s) (w := w) (tx := tx) (i := (i : Int)) (some (.str t)) (runs w t) a m y h1 h2 (by omega)
    obtain ⟨x', z', y', e⟩ := outer RK ts (i + 1) (addAll i (runs w t) a) (m + 4) (some (.str t)) (some (.int i)) y1 (fun u hu => ht u (by simp [hu])) (fun r => by
      have := g1 r
      omega) (by omega) (by omega)
    refine ⟨x', z', y', ?_⟩
    have er := RK.2.2 t (ht t (by simp)) [.dct false (accP a)]
    have es : S9_run_postings (etaP s tx w (some (.str t)) (some (.int i)) y) [.dct false (accP a)] = .nx (etaP s tx w (some (.str t)) (some (.int i)) y1) [.dct false (accP (addAll i (runs w t) a))] := by
      simp [S9_run_postings, sFor, iAny, eA, aCons, aNil, eVar, R.bind, R.toS, er, iterP]
      exact e1
    show forL (.tp [.nm 5, .nm 3]) S9_run_postings (.tup [.int i, .str t] :: enumP (i + 1) (ts.map .str)) _ _ = _
    simp only [forL, Tg.bind, Tg.binds]
    rw [show ((etaP s tx w x z y).set 5 (some (.int i))).set 3 (some (.str t)) = etaP s tx w (some (.str t)) (some (.int i)) y from rfl]
    rw [es]
    exact e
end
end K44

set_option Elab.async false
set_option linter.all false
set_option maxRecDepth 1000000
/-! K44E: postings, what may have a part, searches: the answers. -/
namespace K44
open Pl
def tab (w : Nat) (ts : List S) : List (PV × PV) := ((words w).filter fun r => ts.any (findSub r)).map fun r => (.str r, .tup ((idx (findSub r) 0 ts).map .int))
theorem dPut_new : ∀ (acc : List (PV × PV)) (r : S) (v : PV), (∀ p ∈ acc, PV.eqv p.1 (.str r) = false) → dPut acc (.str r) v = acc ++ [(.str r, v)]
  | [], _, _, _ => rfl
  | p :: acc, r, v, h => by
    have h1 := h p (by simp)
    have ih := dPut_new acc r v fun q hq => h q (by simp [hq])
    simp [dPut, h1, ih]
theorem dc_keys {η : En} {st : Sto} {fk fv : EF} {i : Nat} (val : S → PV) : ∀ (ks : List S) (acc : List S), (∀ r ∈ ks, ∀ η1, Tg.bind (.nm i) (.str r) η = some η1 → fk η1 st = .ok (.str r) st ∧ fv η1 st = .ok (val r) st) → (acc ++ ks).Nodup → acc.length + ks.length ≤ 1000 →
    dcL (.nm i) bYes fk fv η (ks.map .str) (acc.map fun r => (.str r, val r)) st = .ok ((acc ++ ks).map fun r => (.str r, val r)) st
  | [], acc, _, _, _ => by simp [dcL]
  | r :: ks, acc, h, nd, hl => by
    obtain ⟨h1, h2⟩ := h r (by simp) _ rfl
    have hk : okKey (acc.map fun r => (PV.str r, val r)) (.str r) = true := by simp [okKey, PV.hk, PV.isTup]
    have hn : ¬ r ∈ acc := fun m => by
      rw [List.nodup_append] at nd
      exact nd.2.2 r m r (by simp) rfl
    have hp : dPut (acc.map fun r => (PV.str r, val r)) (.str r) (val r) = (acc ++ [r]).map fun r => (PV.str r, val r) := by
      rw [dPut_new _ r _ fun p hp => ?_]
      · simp
      · obtain ⟨q, hq, rfl⟩ := List.mem_map.mp hp
        have : ¬ q = r := fun e => hn (e ▸ hq)
        simp [PV.eqv, this]
    have hL : acc.length < LIM := by
      simp at hl
      simp [LIM]
      omega
    have ih := dc_keys val ks (acc ++ [r]) (fun q hq => h q (by simp [hq])) (by simpa using nd) (by
      simp at hl ⊢
      omega)
    show dcL (.nm i) bYes fk fv η (.str r :: ks.map .str) _ st = _
    simp only [dcL, Tg.bind, bYes, R.bind, h1, h2, hk, List.length_map, decide_eq_true hL, Bool.and_self, hp]
    rw [ih]
    simp
theorem loop_check {s : S} (hs : IsSg s) {tx : PV} {w : Nat} : ∀ (ts : List S) (x : Option PV), (∀ t ∈ ts, IsT t) → ∃ x', forL (.nm 3) S5_run_postings (ts.map .str) [some (.str s), some tx, some (.int w), x, none, none, none] [] = .nx [some (.str s), some tx, some (.int w), x', none, none, none] []
  | [], x, _ => ⟨x, rfl⟩
  | t :: ts, x, h => by
    obtain ⟨x', e⟩ := loop_check hs (tx := tx) (w := w) ts (some (.str t)) fun u hu => h u (by simp [hu])
    refine ⟨x', ?_⟩
    have e1 : S5_run_postings [some (.str s), some tx, some (.int w), some (.str t), none, none, none] [] = .nx [some (.str s), some tx, some (.int w), some (.str t), none, none, none] [] := by
      simp [S5_run_postings, sEx, eA, aCons, aNil, eVar, R.bind, R.toS, run_ok hs (h t (by simp))]
    simp [forL, Tg.bind, e1, e]
theorem any_build {w : Nat} (h : w = 1 ∨ w = 2) (ts : List S) {r : S} (hr : r ∈ words w) : ((build w 0 ts []).map (·.1)).contains r = ts.any (findSub r) := by
  have e := (look_build h hr ts 0 []).2
  simp only [look, Option.isSome_none, Bool.false_or] at e
  rw [← e, Bool.eq_iff_iff, List.contains_iff_mem, look_mem]
theorem build_len {w : Nat} (h : w = 1 ∨ w = 2) : ∀ (ts : List S) (i : Nat) (a : Acc), (build w i ts a).length ≤ a.length + 4 * ts.length
  | [], i, a => by simp [build]
  | t :: ts, i, a => by
    have ih := build_len h ts (i + 1) (addAll i (runs w t) a)
    have rl := runs_len h t
    have w2 : w ≤ 2 := by
      rcases h with rfl | rfl <;> decide
    have key : ∀ (rs : List S) (a : Acc), (addAll i rs a).length ≤ a.length + rs.length := fun rs => by
      induction rs with
      | nil => intro a; simp [addAll]
      | cons r rs ih =>
        intro a
        have := ih (addA a r i)
        have := len_add a r i
        simp only [addAll, List.length_cons]
        omega
    have := key (runs w t) a
    simp only [build, List.length_cons]
    omega
theorem postings_ok {s : S} {w : Nat} (RK : RunsOk s w) {ts : List S} (ht : ∀ t ∈ ts, IsT t) (hl : ts.length ≤ 7) (st : Sto) : frm F_run_postings [.str s, .tup (ts.map .str), .int w] st = .ok (.dct (tab w ts)) st := by
  let tx : PV := .tup (ts.map .str)
  have hw := RK.2.1
  obtain ⟨x1, c1⟩ := loop_check RK.1 (tx := tx) (w := w) ts none ht
  obtain ⟨x2, z2, y2, c2⟩ := outer (tx := tx) RK ts 0 [] 0 x1 none none ht (fun r => by simp [look]) (by simp) (by omega)
  have h1 : S1_run_postings [some (.str s), some tx, some (.int w), none, none, none, none] [] = .nx [some (.str s), some tx, some (.int w), none, none, none, none] [] := by
    simp [S1_run_postings, sEx, eA, aCons, aNil, eVar, R.bind, R.toS, signs_ok RK.1]
  have h2 : S2_run_postings [some (.str s), some tx, some (.int w), none, none, none, none] [] = .nx [some (.str s), some tx, some (.int w), none, none, none, none] [] := by
    have l1 : ¬ ((50 : Int) < ts.length) := by omega
    simp [S2_run_postings, sIf, bOr, bNot, bV, eA, aCons, aNil, eVar, eC, R.bind, R.toS, o2, o1, gIsi, PV.kd, isTy, gLenD, gLen, dctOf, seqOf, eB, oI, tx, l1, sNil]
  have h4 : S4_run_postings [some (.str s), some tx, some (.int w), none, none, none, none] [] = .nx [some (.str s), some tx, some (.int w), x1, none, none, none] [] := by
    simp [S4_run_postings, sFor, iAny, eVar, R.bind, R.toS, tx, iterP]
    exact c1
  have h6 : S6_run_postings [some (.str s), some tx, some (.int w), x1, none, none, none] [] = .nx [some (.str s), some tx, some (.int w), x1, none, none, none] [] := by
    simp [S6_run_postings, sEx, eA, aCons, aNil, eVar, R.bind, R.toS, width_ok hw]
  have h7 : S7_run_postings [some (.str s), some tx, some (.int w), x1, none, none, none] [] = .nx (etaP s tx w x1 none none) [.dct false (accP [])] := rfl
  have h8 : S8_run_postings (etaP s tx w x1 none none) [.dct false (accP [])] = .nx (etaP s tx w x2 z2 y2) [.dct false (accP (build w 0 ts []))] := by
    simp [S8_run_postings, sFor, iEnumF, aCons, aNil, eVar, R.bind, R.toS, tx]
    exact c2
  have nd : ((build w 0 ts []).map (·.1)).Nodup := nd_build ts 0 [] (by simp)
  have sub := keys_build (w := w) ts 0 [] (by simp)
  have hlen : ((build w 0 ts []).map (·.1)).length ≤ LIM := by
    have := build_len hw ts 0 []
    simp [LIM] at this ⊢
    omega
  have hs := sort_words hw _ nd sub
  have hf : ((words w).filter fun u => ((build w 0 ts []).map (·.1)).contains u) = (words w).filter fun r => ts.any (findSub r) := List.filter_congr fun r hr => any_build hw ts hr
  rw [hf] at hs
  have hsrt : gSorted (.loc 0) [.dct false (accP (build w 0 ts []))] = .ok (.lst (((words w).filter fun r => ts.any (findSub r)).map .str)) [.dct false (accP (build w 0 ts []))] := by
    rw [← hs]
    refine sorted_ok hlen ?_
    simp [itemsOf, seqOf, dctOf, accP]
  have hd : dcL (.nm 6) bYes (eVar 6) (eB oIxD (eVar 4) (eVar 6)) (wipeE (etaP s tx w x2 z2 y2) [6]) (((words w).filter fun r => ts.any (findSub r)).map .str) (([] : List S).map fun r => (.str r, .tup ((idx (findSub r) 0 ts).map .int))) [.dct false (accP (build w 0 ts []))] = .ok (tab w ts) [.dct false (accP (build w 0 ts []))] := by
    refine dc_keys (fun r => .tup ((idx (findSub r) 0 ts).map .int)) _ [] (fun r hr η1 e1 => ?_) (by rw [List.nil_append]; exact (words_nd hw).filter _) ?_
    · obtain ⟨hr1, hr2⟩ := List.mem_filter.mp hr
      obtain ⟨g1, g2⟩ := look_build hw hr1 ts 0 []
      have e2 : η1 = etaP s tx w x2 z2 (some (.str r)) := (Option.some.inj e1).symm
      subst e2
      have g3 : (look (build w 0 ts []) r).isSome = true := by
        rw [g2, hr2]
        simp
      obtain ⟨l, hl2⟩ := Option.isSome_iff_exists.mp g3
      rw [hl2] at g1
      simp [look] at g1
      refine ⟨by simp [eVar], ?_⟩
      simp [eB, eVar, R.bind, oIxD, dctOf, okKey_acc, dVal_acc, hl2, g1]
    · have := List.length_filter_le (fun r => ts.any (findSub r)) (words w)
      have : (words w).length ≤ 4 := by
        rcases hw with rfl | rfl <;> decide
      simp
      omega
  have h11 : S11_run_postings (etaP s tx w x2 z2 y2) [.dct false (accP (build w 0 ts []))] = .rt (.dct (tab w ts)) [.dct false (accP (build w 0 ts []))] := by
    simp [S11_run_postings, sRet, eDC, iAny, eA, aCons, aNil, eVar, R.bind, R.toS, o1, hsrt, iterP, mkDct]
    simp at hd
    rw [hd]
  refine frm_ok (s := [.dct false (accP (build w 0 ts []))]) ?_ ?_ ?_ st
  · show unS (B_run_postings [some (.str s), some tx, some (.int w), none, none, none, none] []) = _
    simp [B_run_postings, sSeq, h1, h2, h4, h6, h7, h8, h11, unS]
  · simp [noLocs, noLoc, noLocs_str]
  · simp only [noLoc, tab]
    generalize (words w).filter (fun r => ts.any (findSub r)) = l
    induction l with
    | nil => rfl
    | cons r l ih => simp [noLocD, noLoc, noLocs_int, ih]
end K44

set_option Elab.async false
set_option linter.all false
set_option maxRecDepth 1000000
/-! K44H: what may have a part, searches. -/
namespace K44
open Pl
theorem idx_cut (q : S → Bool) : ∀ (ts : List S) (i : Nat) (P : Nat → Bool), (∀ j (h : j < ts.length), P (i + j) = q ts[j]) → ((List.range' i ts.length).filter P).map Int.ofNat = idx q i ts
  | [], i, P, _ => rfl
  | t :: ts, i, P, h => by
    have h0 := h 0 (by simp)
    have ih := idx_cut q ts (i + 1) P fun j hj => by
      have := h (j + 1) (by simpa using hj)
      rw [Nat.add_assoc, Nat.add_comm 1 j]
      simpa using this
    simp only [Nat.add_zero, List.getElem_cons_zero] at h0
    simp only [List.length_cons, List.range'_succ, List.filter_cons, h0, idx]
    cases q t with
    | true => simpa using ih
    | false => simpa using ih
theorem mem_idx (q : S → Bool) : ∀ (ts : List S) (i j : Nat) (h : j < ts.length), (idx q i ts).contains ((i + j : Nat) : Int) = q ts[j]
  | [], i, j, h => by simp at h
  | t :: ts, i, 0, h => by
    have hlt : ∀ (ts : List S) (i k : Nat), k < i → (idx q i ts).contains (k : Int) = false := fun ts => by
      induction ts with
      | nil => intros; rfl
      | cons t ts ih =>
        intro i k hk
        have hne : ¬ (k : Int) = i := by omega
        have := ih (i + 1) k (by omega)
        simp only [List.contains_eq_mem, decide_eq_false_iff_not] at this
        simp only [idx]
        split <;> simp [hne, this]
    have h2 := hlt ts (i + 1) i (by omega)
    simp only [List.contains_eq_mem, decide_eq_false_iff_not] at h2
    simp only [idx, Nat.add_zero, List.getElem_cons_zero]
    cases q t <;> simp [h2]
  | t :: ts, i, j + 1, h => by
    have ih := mem_idx q ts (i + 1) j (by simpa using h)
    have hne : ¬ ((i + (j + 1) : Nat) : Int) = i := by omega
    rw [show i + 1 + j = i + (j + 1) by omega] at ih
    simp only [idx, List.getElem_cons_succ]
    rw [← ih]
    cases q t with
    | true =>
      have hne2 : ((i + (j + 1) : Nat) : Int) ≠ (i : Int) := hne
      simp only [if_true, List.contains_cons, beq_eq_false_iff_ne.mpr hne2, Bool.false_or]
    | false => simp
theorem anyEqv_int (j : Int) : ∀ l : List Int, anyEqv (.int j) (l.map .int) = l.contains j
  | [] => rfl
  | x :: l => by
    have ih := anyEqv_int j l
    by_cases h : x = j
    · subst h
      simp [anyEqv, PV.eqv]
    · have h2 : ¬ j = x := fun z => h z.symm
      simp only [List.map_cons, anyEqv, PV.eqv, ih, List.contains_cons, beq_eq_false_iff_ne.mpr h, beq_eq_false_iff_ne.mpr h2]
/-- a table, by what it has of each run -/
def TabF (w : Nat) (kvs : List (PV × PV)) (f : S → List Int) : Prop := (∀ r ∈ words w, okKey kvs (.str r) = true ∧ (dVal kvs (.str r)).getD (.tup []) = .tup ((f r).map .int)) ∧ noLocD kvs = true
theorem tab_f {w : Nat} (h : w = 1 ∨ w = 2) (ts : List S) : TabF w (tab w ts) fun r => idx (findSub r) 0 ts := by
  refine ⟨fun r hr => ⟨?_, ?_⟩, ?_⟩
  · simp [okKey, PV.hk, tab, PV.isTup]
  · have key : ∀ l : List S, (dVal (l.map fun r => (PV.str r, PV.tup ((idx (findSub r) 0 ts).map .int))) (.str r)) = if r ∈ l then some (.tup ((idx (findSub r) 0 ts).map .int)) else none := fun l => by
      induction l with
      | nil => rfl
      | cons q l ih =>
        simp only [List.map_cons, dVal, PV.eqv, ih, List.mem_cons]
        by_cases e : q = r
        · simp [e]
        · have e2 : ¬ r = q := fun z => e z.symm
          simp [e2, beq_eq_false_iff_ne.mpr e]
    rw [tab, key]
    split
    · rfl
    · rename_i hn
      have ha : ts.any (findSub r) = false := by
        cases e : ts.any (findSub r) with
        | false => rfl
        | true => exact absurd (List.mem_filter.mpr ⟨hr, e⟩) hn
      have hi : ∀ (ts : List S) (i : Nat), ts.any (findSub r) = false → idx (findSub r) i ts = [] := fun ts => by
        induction ts with
        | nil => intros; rfl
        | cons t ts ih =>
          intro i h
          simp only [List.any_cons, Bool.or_eq_false_iff] at h
          simp [idx, h.1, ih (i + 1) h.2]
      simp [hi ts 0 ha]
  · simp only [tab]
    generalize (words w).filter (fun r => ts.any (findSub r)) = l
    induction l with
    | nil => rfl
    | cons r l ih => simp [noLocD, noLoc, noLocs_int, ih]
theorem empty_f (w : Nat) : TabF w [] fun _ => [] := ⟨fun r _ => ⟨by simp [okKey, PV.hk], rfl⟩, rfl⟩
def rowsF (w : Nat) (p : S) (f : S → List Int) (n : Nat) : List Int := ((List.range' 0 n).filter fun (j : Nat) => (runs w p).all fun r => (f r).contains (j : Int)).map Int.ofNat
theorem boolsP_map {α : Type} (f : α → PV) (g : α → Bool) : ∀ l : List α, (∀ x ∈ l, f x = .bl (g x)) → boolsP (l.map f) = some (l.map g)
  | [], _ => rfl
  | x :: l, h => by simp [boolsP, h x (by simp), boolsP_map f g l fun y hy => h y (by simp [hy])]
abbrev etaM (s : S) (kvs : List (PV × PV)) (w n : Nat) (p : S) (x r : Option PV) : En := [some (.str s), some (.dct kvs), some (.int w), some (.int n), some (.str p), r, x, none]
section
variable {s : S} {w : Nat} {kvs : List (PV × PV)} {f : S → List Int} {n : Nat} {p : S}
theorem may_get (hf : TabF w kvs f) {r : S} (hr : r ∈ words w) (x : Option PV) (rs : Option PV) : eM 5 (m2 gGet2) (eVar 1) (aCons (eVar 7) (aCons (eA mkTup aNil) aNil)) ((etaM s kvs w n p x rs).set 7 (some (.str r))) [] = .ok (.tup ((f r).map .int)) [] := by
  obtain ⟨k1, k2⟩ := hf.1 r hr
  cases hd : dVal kvs (.str r) with
  | none =>
    rw [hd] at k2
    simp only [Option.getD_none] at k2
    simp [eM, eVar, R.bind, PV.kd, aCons, aNil, eA, mkTup, m2, gGet2, dctOf, k1, hd]
    simpa using k2
  | some v =>
    rw [hd] at k2
    simp only [Option.getD_some] at k2
    simp [eM, eVar, R.bind, PV.kd, aCons, aNil, eA, mkTup, m2, gGet2, dctOf, k1, hd, k2]
def eIn : EF := eB (oInD false) (eVar 6) (eM 5 (m2 gGet2) (eVar 1) (aCons (eVar 7) (aCons (eA mkTup aNil) aNil)))
theorem may_in (hf : TabF w kvs f) (j : Nat) (rs : Option PV) : lcL (.nm 7) bYes eIn (etaM s kvs w n p (some (.int j)) rs) ((runs w p).map .str) [] = .ok ((runs w p).map fun r => .bl ((f r).contains (j : Int))) [] := by
  have e := lcL_pure (t := .nm 7) (c := bYes) (f := eIn) (η := etaM s kvs w n p (some (.int j)) rs) (st := []) (fun x => (etaM s kvs w n p (some (.int j)) rs).set 7 (some x)) (fun _ => true) (fun x => match x with
    | .str r => .bl ((f r).contains (j : Int))
    | _ => .non) ((runs w p).map .str) fun x hx => by
      obtain ⟨r, hr, rfl⟩ := List.mem_map.mp hx
      refine ⟨rfl, rfl, fun _ => ?_⟩
      have e1 := may_get (s := s) (n := n) (p := p) hf (mem_runs.mp hr).1 (some (.int j)) rs
      have e6 : eVar 6 ((etaM s kvs w n p (some (.int j)) rs).set 7 (some (.str r))) [] = .ok (.int j) [] := rfl
      simp only [eIn, eB, e6, R.bind, e1]
      simp [oInD, dctOf, oIn, seqOf, PV.pl, pls_int, anyEqv_int]
  rw [e, List.filter_eq_self.mpr (fun _ _ => rfl), List.map_map]
  rfl
def bAll : BF := bV (eA (o1 (gBools fun bs => bs.all id)) (aCons (eLC (iAny (eVar 5)) [7] (.nm 7) bYes eIn) aNil))
theorem may_all (hf : TabF w kvs f) (hw : w = 1 ∨ w = 2) (j : Nat) : bAll (etaM s kvs w n p (some (.int j)) (some (.tup ((runs w p).map .str)))) [] = .ok ((runs w p).all fun r => (f r).contains (j : Int)) [] := by
  have ij := may_in (s := s) (n := n) (p := p) hf j (some (.tup ((runs w p).map .str)))
  have hb := boolsP_map (fun r : S => PV.bl ((f r).contains (j : Int))) (fun r => (f r).contains (j : Int)) (runs w p) fun _ _ => rfl
  have l3 : ((runs w p).map fun r => PV.bl ((f r).contains (j : Int))).length ≤ LIM := by
    have := runs_len hw p
    have w2 : w ≤ 2 := by
      rcases hw with rfl | rfl <;> decide
    rw [List.length_map]
    unfold LIM
    omega
  have e0 : iAny (eVar 5) (etaM s kvs w n p (some (.int j)) (some (.tup ((runs w p).map .str)))) [] = .ok ((runs w p).map .str) [] := by
    simp [iAny, eVar, R.bind, iterP]
  have e1 : wipeE (etaM s kvs w n p (some (.int j)) (some (.tup ((runs w p).map .str)))) [7] = etaM s kvs w n p (some (.int j)) (some (.tup ((runs w p).map .str))) := by simp [wipeE]
  have e2 : eLC (iAny (eVar 5)) [7] (.nm 7) bYes eIn (etaM s kvs w n p (some (.int j)) (some (.tup ((runs w p).map .str)))) [] = .ok (.lst ((runs w p).map fun r => PV.bl ((f r).contains (j : Int)))) [] := by
    simp only [eLC, e0, R.bind, e1, ij, mkLst, l3, if_true]
  simp only [bAll, bV, eA, aCons, e2, R.bind, aNil, o1, gBools, lstOf, seqOf, hb]
  simp [List.all_map, Function.comp_def]
theorem may_out (hf : TabF w kvs f) (hw : w = 1 ∨ w = 2) : lcL (.nm 6) bAll (eVar 6) (etaM s kvs w n p none (some (.tup ((runs w p).map .str)))) (rangeL 0 n) [] = .ok ((rowsF w p f n).map .int) [] := by
  have e := lcL_pure (t := .nm 6) (c := bAll) (f := eVar 6) (η := etaM s kvs w n p none (some (.tup ((runs w p).map .str)))) (st := []) (fun x => etaM s kvs w n p (some x) (some (.tup ((runs w p).map .str)))) (fun x => match x with
    | .int j => (runs w p).all fun r => (f r).contains j
    | _ => false) (fun x => x) (rangeL 0 n) fun x hx => by
      obtain ⟨j, hj, rfl⟩ := List.mem_map.mp hx
      refine ⟨rfl, ?_, fun _ => rfl⟩
      rw [Int.zero_add]
      exact may_all hf hw j
  rw [e]
  congr 1
  simp only [rangeL, rowsF, List.range_eq_range', List.map_id'', List.filter_map, List.map_map]
  rw [show ((fun x => x) ∘ fun (i : Nat) => PV.int (0 + (i : Int))) = PV.int ∘ Int.ofNat from by
    funext j
    simp]
  congr 1
  refine List.filter_congr fun j _ => ?_
  simp
theorem may_from (hn : n ≤ 50) : frm F_is_from [.int n, .int 0, .int 50] [] = .ok (.bl true) [] := by
  refine frm_ok (s := []) ?_ rfl rfl []
  have hwh : frm F_is_whole [.int n] [] = .ok (.bl true) [] := by
    refine frm_ok (s := []) ?_ rfl rfl []
    show unS (B_is_whole [some (.int n)] []) = _
    simp [B_is_whole, S1_is_whole, sRet, eAnd, eNot, eA, o2, gIsi, aCons, aNil, eVar, eC, R.bind, R.toS, PV.kd, isTy, unS]
  show unS (B_is_from [some (.int n), some (.int 0), some (.int 50)] []) = _
  have l1 : (0 : Int) ≤ n := by omega
  have l2 : (n : Int) ≤ 50 := by omega
  simp [B_is_from, S1_is_from, sRet, eAnd, eCh, oI, eA, aCons, aNil, eVar, R.bind, R.toS, hwh, l1, l2, unS]
theorem may_last (hf : TabF w kvs f) (hw : w = 1 ∨ w = 2) (hn : n ≤ 50) : S9_may_have (etaM s kvs w n p none (some (.tup ((runs w p).map .str)))) [] = .rt (.tup ((rowsF w p f n).map .int)) [] := by
  have l1 : rgOk (n : Int) = true := by
    rw [rgOk, Bool.and_eq_true, decide_eq_true_iff, decide_eq_true_iff]
    omega
  have l2 : ((rowsF w p f n).map PV.int).length ≤ LIM := by
    have := List.length_filter_le (fun j => (runs w p).all fun r => (f r).contains ((j : Nat) : Int)) (List.range' 0 n)
    rw [List.length_range'] at this
    rw [List.length_map, rowsF, List.length_map]
    unfold LIM
    omega
  have e0 : iR1 (aCons (eVar 3) aNil) (etaM s kvs w n p none (some (.tup ((runs w p).map .str)))) [] = .ok (rangeL 0 n) [] := by
    exact iR1_at (j := n) (s := []) rfl l1
  have e1 : wipeE (etaM s kvs w n p none (some (.tup ((runs w p).map .str)))) [6] = etaM s kvs w n p none (some (.tup ((runs w p).map .str))) := by simp [wipeE]
  have e2 : eLC (iR1 (aCons (eVar 3) aNil)) [6] (.nm 6) bAll (eVar 6) (etaM s kvs w n p none (some (.tup ((runs w p).map .str)))) [] = .ok (.lst ((rowsF w p f n).map .int)) [] := by
    exact eLC_at e0 (by rw [e1]; exact may_out hf hw) l2
  show (sRet (eA (o1 gTuple) (aCons (eLC (iR1 (aCons (eVar 3) aNil)) [6] (.nm 6) bAll (eVar 6)) aNil))) _ [] = _
  exact sRet_at (eA1_at e2)
theorem may_ok (RK : RunsOk s w) (hf : TabF w kvs f) (hn : n ≤ 50) (hp : IsT p) (st : Sto) :
    frm F_may_have [.str s, .dct kvs, .int w, .int n, .str p] st = .ok (.tup ((rowsF w p f n).map .int)) st := by
  have hw := RK.2.1
  have h1 : S1_may_have (etaM s kvs w n p none none) [] = .nx (etaM s kvs w n p none none) [] := by
    simp [S1_may_have, sEx, eA, aCons, aNil, eVar, R.bind, R.toS, signs_ok RK.1]
  have h2 : S2_may_have (etaM s kvs w n p none none) [] = .nx (etaM s kvs w n p none none) [] := by
    simp [S2_may_have, sEx, eA, aCons, aNil, eVar, R.bind, R.toS, width_ok hw]
  have h3 : S3_may_have (etaM s kvs w n p none none) [] = .nx (etaM s kvs w n p none none) [] := by
    simp [S3_may_have, sEx, eA, aCons, aNil, eVar, R.bind, R.toS, run_ok RK.1 hp]
  have h4 : S4_may_have (etaM s kvs w n p none none) [] = .nx (etaM s kvs w n p none none) [] := by
    simp [S4_may_have, sIf, bNot, bV, eA, aCons, aNil, eVar, eC, R.bind, R.toS, may_from hn, sNil]
  have h6 : S6_may_have (etaM s kvs w n p none none) [] = .nx (etaM s kvs w n p none none) [] := by
    simp [S6_may_have, sIf, bNot, bV, eA, aCons, aNil, eVar, eC, R.bind, R.toS, o2, gIsi, PV.kd, isTy, sNil]
  have h8 : S8_may_have (etaM s kvs w n p none none) [] = .nx (etaM s kvs w n p none (some (.tup ((runs w p).map .str)))) [] := by
    simp [S8_may_have, sSet, eA, aCons, aNil, eVar, R.bind, R.toS, RK.2.2 p hp]
  refine frm_ok (s := []) ?_ ?_ ?_ st
  · show unS (B_may_have (etaM s kvs w n p none none) []) = _
    simp only [B_may_have, sSeq, h1, h2, h3, h4, h6, h8, may_last hf hw hn, unS]
  · simp [noLocs, noLoc, hf.2]
  · simp [noLoc, noLocs_int]
end
theorem rows_idx {w : Nat} (p : S) (ts : List S) : rowsF w p (fun r => idx (findSub r) 0 ts) ts.length = idx (fun t => (runs w p).all fun r => findSub r t) 0 ts := by
  refine idx_cut _ ts 0 _ fun j hj => ?_
  simp only [Nat.zero_add]
  congr 1
  funext r
  have := mem_idx (findSub r) ts 0 j hj
  simpa using this
theorem rows_none {w : Nat} (p : S) (n : Nat) : rowsF w p (fun _ => []) n = if (runs w p).isEmpty = true then (List.range' 0 n).map Int.ofNat else [] := by
  unfold rowsF
  cases h : runs w p with
  | nil => simp only [List.all_nil, List.isEmpty_nil, if_true, List.filter_eq_self.mpr (fun _ _ => rfl)]
  | cons r l => simp
theorem idx_and (q q2 : S → Bool) : ∀ (ts : List S) (i : Nat) (P : Int → Bool), (∀ j (h : j < ts.length), P ((i + j : Nat) : Int) = q2 ts[j]) → (idx q i ts).filter P = idx (fun t => q t && q2 t) i ts
  | [], i, P, _ => rfl
  | t :: ts, i, P, h => by
    have h0 := h 0 (by simp)
    have ih := idx_and q q2 ts (i + 1) P fun j hj => by
      have := h (j + 1) (by simpa using hj)
      rw [Nat.add_assoc, Nat.add_comm 1 j]
      simpa using this
    simp only [Nat.add_zero, List.getElem_cons_zero] at h0
    simp only [idx]
    by_cases e1 : q t = true
    · by_cases e2 : q2 t = true
      · rw [e2] at h0
        simp [e1, e2, h0, ih]
      · have e3 : q2 t = false := by simpa using e2
        rw [e3] at h0
        simp [e1, e3, h0, ih]
    · have e3 : q t = false := by simpa using e1
      simp [e3, ih]
theorem idx_congr {q q2 : S → Bool} : ∀ (ts : List S) (i : Nat), (∀ t ∈ ts, q t = q2 t) → idx q i ts = idx q2 i ts
  | [], _, _ => rfl
  | t :: ts, i, h => by
    simp only [idx, h t (by simp), idx_congr ts (i + 1) fun u hu => h u (by simp [hu])]
theorem idx_lt (q : S → Bool) : ∀ (ts : List S) (i : Nat) (x : Int), x ∈ idx q i ts → ∃ j : Nat, x = ((i + j : Nat) : Int) ∧ j < ts.length
  | [], i, x, h => by simp [idx] at h
  | t :: ts, i, x, h => by
    have key : x ∈ idx q (i + 1) ts → ∃ j : Nat, x = ((i + j : Nat) : Int) ∧ j < (t :: ts).length := fun m => by
      obtain ⟨j, e, hj⟩ := idx_lt q ts (i + 1) x m
      exact ⟨j + 1, by rw [e]; congr 1; omega, by simpa using hj⟩
    simp only [idx] at h
    split at h
    · rcases List.mem_cons.mp h with h | h
      · exact ⟨0, h, by simp⟩
      · exact key h
    · exact key h
theorem idx_length (q : S → Bool) : ∀ (ts : List S) (i : Nat), (idx q i ts).length ≤ ts.length
  | [], i => by simp [idx]
  | t :: ts, i => by
    have := idx_length q ts (i + 1)
    simp only [idx]
    split <;> simp <;> omega
/-- of the numbers in rows, those whose text q2 takes -/
theorem search_ok {s : S} {w : Nat} (RK : RunsOk s w) {ts : List S} (ht : ∀ t ∈ ts, IsT t) (hl : ts.length ≤ 7) {p : S} (hp : IsT p) (st : Sto) :
    frm F_search [.str s, .tup (ts.map .str), .int w, .str p] st = .ok (.tup [.tup ((idx (fun t => ((runs w p).all fun r => findSub r t) && findSub p t) 0 ts).map .int), .int (idx (fun t => (runs w p).all fun r => findSub r t) 0 ts).length]) st := by
  let rowsI : List Int := idx (fun t => (runs w p).all fun r => findSub r t) 0 ts
  let η (a b x : Option PV) : En := [some (.str s), some (.tup (ts.map .str)), some (.int w), some (.str p), a, b, x]
  have hm : frm F_may_have [.str s, .dct (tab w ts), .int w, .int ts.length, .str p] [] = .ok (.tup (rowsI.map .int)) [] := by
    rw [may_ok RK (tab_f RK.2.1 ts) (by omega) hp []]
    rw [rows_idx]
  have h1 : S1_search (η none none none) [] = .nx (η (some (.dct (tab w ts))) none none) [] := by
    simp [S1_search, η, sSet, eA, aCons, aNil, eVar, R.bind, R.toS, postings_ok RK ht hl]
  have h2 : S2_search (η (some (.dct (tab w ts))) none none) [] = .nx (η (some (.dct (tab w ts))) (some (.tup (rowsI.map .int))) none) [] := by
    have e : eA (o1 gLenD) (aCons (eVar 1) aNil) (η (some (.dct (tab w ts))) none none) [] = .ok (.int ts.length) [] := by
      simp [η, eA, o1, aCons, aNil, eVar, R.bind, gLenD, gLen, dctOf, seqOf]
    simp only [S2_search]
    refine sSet_at (i := 5) ?_
    simp only [η] at e ⊢
    simp [eA, aCons, aNil, eVar, R.bind] at e ⊢
    rw [e]
    exact hm
  have hlc : lcL (.nm 6) (bV (eB (oInD false) (eVar 3) (eB oIxD (eVar 1) (eVar 6)))) (eVar 6) (η (some (.dct (tab w ts))) (some (.tup (rowsI.map .int))) none) (rowsI.map .int) [] = .ok ((idx (fun t => ((runs w p).all fun r => findSub r t) && findSub p t) 0 ts).map .int) [] := by
    let P : Int → Bool := fun j => match L2.atI ts j with
      | some t => findSub p t
      | none => false
    have e := lcL_pure (t := .nm 6) (c := bV (eB (oInD false) (eVar 3) (eB oIxD (eVar 1) (eVar 6)))) (f := eVar 6) (η := η (some (.dct (tab w ts))) (some (.tup (rowsI.map .int))) none) (st := []) (fun x => η (some (.dct (tab w ts))) (some (.tup (rowsI.map .int))) (some x)) (fun x => match x with
      | .int j => P j
      | _ => false) (fun x => x) (rowsI.map .int) fun x hx => by
        obtain ⟨z, hz, rfl⟩ := List.mem_map.mp hx
        obtain ⟨j, rfl, hj⟩ := idx_lt _ ts 0 z hz
        rw [Nat.zero_add]
        have ea : L2.atI (ts.map PV.str) (j : Int) = some (.str ts[j]) := L2.atI_nat (j := j) (by simp [hj])
        have eb : L2.atI ts (j : Int) = some ts[j] := L2.atI_nat (j := j) (by simp [hj])
        refine ⟨rfl, ?_, fun _ => rfl⟩
        have e1 : eB oIxD (eVar 1) (eVar 6) (η (some (.dct (tab w ts))) (some (.tup (rowsI.map .int))) (some (.int j))) [] = .ok (.str ts[j]) [] := by
          rw [eB_at (v := .tup (ts.map .str)) (u := .int j) (s := []) (s' := []) rfl rfl]
          simp [oIxD, dctOf, oIx, seqOf, ea]
        refine bV_at ?_
        rw [eB_at (v := .str p) (s := []) rfl e1]
        simp [oInD, dctOf, oIn, seqOf, P, eb]
    rw [e]
    congr 1
    rw [List.map_id'' (fun _ => rfl), List.filter_map]
    congr 1
    refine idx_and _ _ ts 0 _ fun j hj => ?_
    have eb : L2.atI ts (j : Int) = some ts[j] := L2.atI_nat (j := j) (by simp [hj])
    simp [P, eb]
  have h3 : S3_search (η (some (.dct (tab w ts))) (some (.tup (rowsI.map .int))) none) [] = .rt (.tup [.tup ((idx (fun t => ((runs w p).all fun r => findSub r t) && findSub p t) 0 ts).map .int), .int rowsI.length]) [] := by
    have l2 : ((idx (fun t => ((runs w p).all fun r => findSub r t) && findSub p t) 0 ts).map PV.int).length ≤ LIM := by
      have := idx_length (fun t => ((runs w p).all fun r => findSub r t) && findSub p t) ts 0
      rw [List.length_map]
      unfold LIM
      omega
    have e0 : iAny (eVar 5) (η (some (.dct (tab w ts))) (some (.tup (rowsI.map .int))) none) [] = .ok (rowsI.map .int) [] := by simp [iAny, η, eVar, R.bind, iterP]
    have e1 : wipeE (η (some (.dct (tab w ts))) (some (.tup (rowsI.map .int))) none) [6] = η (some (.dct (tab w ts))) (some (.tup (rowsI.map .int))) none := by simp [η, wipeE]
    have e2 := eLC_at (own := [6]) e0 (by rw [e1]; exact hlc) l2
    have e3 : eA (o1 gTuple) (aCons (eLC (iAny (eVar 5)) [6] (.nm 6) (bV (eB (oInD false) (eVar 3) (eB oIxD (eVar 1) (eVar 6)))) (eVar 6)) aNil) (η (some (.dct (tab w ts))) (some (.tup (rowsI.map .int))) none) [] = .ok (.tup ((idx (fun t => ((runs w p).all fun r => findSub r t) && findSub p t) 0 ts).map .int)) [] := eA1_at e2
    have e4 : eA (o1 gLenD) (aCons (eVar 5) aNil) (η (some (.dct (tab w ts))) (some (.tup (rowsI.map .int))) none) [] = .ok (.int rowsI.length) [] := by
      simp [η, eA, o1, aCons, aNil, eVar, R.bind, gLenD, gLen, dctOf, seqOf]
    simp only [S3_search]
    refine sRet_at ?_
    show ((aCons _ (aCons _ aNil)) (η (some (.dct (tab w ts))) (some (.tup (rowsI.map .int))) none) []).bind mkTup = _
    have e5 : aCons (eA (o1 gTuple) (aCons (eLC (iAny (eVar 5)) [6] (.nm 6) (bV (eB (oInD false) (eVar 3) (eB oIxD (eVar 1) (eVar 6)))) (eVar 6)) aNil)) (aCons (eA (o1 gLenD) (aCons (eVar 5) aNil)) aNil) (η (some (.dct (tab w ts))) (some (.tup (rowsI.map .int))) none) [] = .ok [.tup ((idx (fun t => ((runs w p).all fun r => findSub r t) && findSub p t) 0 ts).map .int), .int rowsI.length] [] := by
      exact aCons_at e3 (aCons_at e4 aNil_at)
    rw [e5]
    exact mkTup_at (by simp [LIM])
  refine frm_ok (s := []) ?_ ?_ ?_ st
  · show unS (B_search (η none none none) []) = _
    simp only [B_search, sSeq, h1, h2, h3, unS]
    rfl
  · simp [noLocs, noLoc, noLocs_str]
  · simp [noLoc, noLocs, noLocs_int]
end K44

set_option Elab.async false
set_option linter.all false
set_option maxRecDepth 1000000
/-! K44K: the kernel's reckoning, as facts of each text. -/
namespace K44
open Pl
theorem runsOk {w : Nat} (h : w = 1 ∨ w = 2) : RunsOk [97, 98] w := by
  refine ⟨.inl rfl, h, fun t ht st => ?_⟩
  have hm := T_mem ht.1 ht.2
  refine frm_is ?_ rfl (by simp [noLoc, noLocs_str]) st
  rcases h with rfl | rfl
  · exact runs1 t hm
  · exact runs2 t hm
theorem runsOkB : RunsOk [98, 97] 2 := by
  refine ⟨.inr rfl, .inr rfl, fun t ht st => ?_⟩
  exact frm_is (runsR t (T_mem ht.1 ht.2)) rfl (by simp [noLoc, noLocs_str]) st
def IsP (p : S) : Prop := p.length ≤ 3 ∧ IsAB p
theorem IsP.t {p : S} (h : IsP p) : IsT p := ⟨Nat.le_trans h.1 (by decide), h.2⟩
/-- what run_exactly tells -/
inductive Told (w : Nat) (p : S) : PV → Prop
  | exact : (p = [] ∨ p.length = w) → (∀ t, IsT t → dVal (tbl w p) (.tup ((runs w t).map .str)) = some (.bl (findSub p t))) → Told w p (.tup [exact, .dct (tbl w p)])
  | apart (a b : S) : p ≠ [] → p.length ≠ w → Told w p (.tup [apart, .str a, .str b])
theorem noLoc_tbl (w : Nat) (p : S) : noLocD (tbl w p) = true := by
  unfold tbl
  generalize (lex (words w)).filter (fun k => !(k == [[97, 97], [98, 98]])) = l
  induction l with
  | nil => rfl
  | cons k l ih =>
    show (noLoc (.tup (k.map .str)) && (true && noLocD (l.map fun k => (PV.tup (k.map .str), PV.bl (p == [] || k.contains p))))) = true
    rw [ih, show noLoc (.tup (k.map .str)) = true from noLocs_str k]
    rfl
theorem parts3 (w : Nat) (h : w = 1 ∨ w = 2) : ∀ p ∈ T 3, (p = [] ∨ p.length = w) ∧ p ∈ ([] :: words w) ∨ (p ≠ [] ∧ p.length ≠ w) ∧ tolds.any (fun q => q.1 == w && q.2.1 == p) = true := by
  rcases h with rfl | rfl
  · decide +kernel
  · decide +kernel
theorem look_of {w : Nat} {p t : S} (h : lookOk w p t = true) : dVal (tbl w p) (.tup ((runs w t).map .str)) = some (.bl (findSub p t)) := by
  unfold lookOk at h
  split at h
  · rename_i b e
    rw [e]
    rw [eq_of_beq h]
  · cases h
theorem told_ok {w : Nat} (h : w = 1 ∨ w = 2) {p : S} (hp : IsP p) : ∃ v, Told w p v ∧ ∀ st, frm F_run_exactly [sAB, .int w, .str p] st = .ok v st := by
  rcases parts3 w h p (T_mem hp.1 hp.2) with ⟨h1, h2⟩ | ⟨⟨h1, h2⟩, h3⟩
  · refine ⟨_, .exact h1 fun t ht => ?_, fun st => frm_is (v := .tup [exact, .dct (tbl w p)]) ?_ rfl ?_ st⟩
    · have hm := T_mem ht.1 ht.2
      rcases h with rfl | rfl
      · exact look_of (List.all_eq_true.mp (List.all_eq_true.mp look1 p h2) t hm)
      · exact look_of (List.all_eq_true.mp (List.all_eq_true.mp look2 p h2) t hm)
    · rcases h with rfl | rfl
      · exact List.all_eq_true.mp tolds_exact1 p h2
      · exact List.all_eq_true.mp tolds_exact2 p h2
    · simp [noLoc, noLocs, exact, noLoc_tbl]
  · obtain ⟨q, hq, e⟩ := List.any_eq_true.mp h3
    obtain ⟨w', p', a, b⟩ := q
    simp only [Bool.and_eq_true] at e
    have e1 : w' = w := eq_of_beq e.1
    have e2 : p' = p := eq_of_beq e.2
    subst e1 e2
    exact ⟨_, .apart a b h1 h2, fun st => frm_is (List.all_eq_true.mp tolds_apart _ hq) rfl rfl st⟩
theorem in12 {w : Nat} (h : w = 1 ∨ w = 2) : w ∈ [1, 2] := by rcases h with rfl | rfl <;> decide
/-- the part's runs are the text's -/
theorem due_row {w : Nat} (h : w = 1 ∨ w = 2) {p t : S} (hp : IsP p) (ht : IsT t) (f : findSub p t = true) : rowB w p t = true := by
  have e := List.all_eq_true.mp (List.all_eq_true.mp (List.all_eq_true.mp dueRow w (in12 h)) p (T_mem hp.1 hp.2)) t (T_mem ht.1 ht.2)
  simpa [f] using e
theorem part_row {w : Nat} (h : w = 1 ∨ w = 2) {p t : S} (hp : IsP p) (hl : p.length = w) (ht : IsT t) : rowB w p t = findSub p t := by
  have e := List.all_eq_true.mp (List.all_eq_true.mp (List.all_eq_true.mp partW w (in12 h)) p (words_mem w p hl hp.2)) t (T_mem ht.1 ht.2)
  exact eq_of_beq e
theorem wide_row {p t : S} (hp : IsP p) (hl : 2 ≤ p.length) (ht : IsT t) (f : rowB 2 p t = true) : rowB 1 p t = true := by
  have e := List.all_eq_true.mp wideRow p (T_mem hp.1 hp.2)
  simp only [Bool.or_eq_true, decide_eq_true_eq] at e
  rcases e with e | e
  · omega
  · have e2 := List.all_eq_true.mp e t (T_mem ht.1 ht.2)
    simpa [f] using e2
theorem tail_runs {w : Nat} (h : w = 1 ∨ w = 2) {t : S} (ht : IsT t) : ∀ r ∈ runs w (t.drop 1), r ∈ runs w t := by
  have e := List.all_eq_true.mp (List.all_eq_true.mp tailRuns w (in12 h)) t (T_mem ht.1 ht.2)
  intro r hr
  simpa using List.all_eq_true.mp e r hr
theorem swap_runs {w : Nat} (h : w = 1 ∨ w = 2) {t : S} (ht : IsT t) : (runs w (swap t)).length = (runs w t).length :=
  eq_of_beq (List.all_eq_true.mp (List.all_eq_true.mp swapRuns w (in12 h)) t (T_mem ht.1 ht.2))
theorem short_runs {w : Nat} (h : w = 1 ∨ w = 2) {t : S} (ht : IsT t) (hl : t.length < w) : runs w t = [] := by
  have e := List.all_eq_true.mp (List.all_eq_true.mp shortRuns w (in12 h)) t (T_mem ht.1 ht.2)
  simp only [Bool.or_eq_true, decide_eq_true_eq] at e
  rcases e with e | e
  · omega
  · simpa using e
theorem rev_sub {p t : S} (hp : IsP p) (ht : IsT t) : findSub p.reverse t.reverse = findSub p t :=
  eq_of_beq (List.all_eq_true.mp (List.all_eq_true.mp revSub p (T_mem hp.1 hp.2)) t (T_mem ht.1 ht.2))
theorem no_runs {w : Nat} (h : w = 1 ∨ w = 2) {p : S} (hp : IsP p) : (runs w p).isEmpty = decide (p.length < w) :=
  eq_of_beq (List.all_eq_true.mp (List.all_eq_true.mp noRuns w (in12 h)) p (T_mem hp.1 hp.2))
theorem IsT.drop {t : S} (h : IsT t) : IsT (t.drop 1) := ⟨by
  have := h.1
  rw [List.length_drop]
  omega, fun c hc => h.2 c (List.mem_of_mem_drop hc)⟩
theorem IsT.swap {t : S} (h : IsT t) : IsT (swap t) := ⟨by
  have := h.1
  unfold K44.swap
  rw [List.length_map]
  exact this, fun c hc => by
  obtain ⟨d, _, rfl⟩ := List.mem_map.mp hc
  by_cases e : d = 97
  · rw [if_pos e]; exact .inr rfl
  · rw [if_neg e]; exact .inl rfl⟩
theorem IsT.rev {t : S} (h : IsT t) : IsT t.reverse := ⟨by
  have := h.1
  rw [List.length_reverse]
  exact this, fun c hc => h.2 c (List.mem_reverse.mp hc)⟩
theorem IsP.rev {t : S} (h : IsP t) : IsP t.reverse := ⟨by
  have := h.1
  rw [List.length_reverse]
  exact this, fun c hc => h.2 c (List.mem_reverse.mp hc)⟩
end K44

set_option Elab.async false
set_option linter.all false
set_option maxRecDepth 1000000
/-! K44L: the law's drawing. -/
namespace K44
open Pl
theorem next_eq : F__law_next = Draw.F__law_next := rfl
theorem pick_eq : F__law_pick = Draw.F__law_pick := rfl
def eAB : EF := eA mkLst (aCons (eC (.str [97])) (aCons (eC (.str [98])) aNil))
theorem eAB_at (η : En) (st : Sto) : eAB η st = .ok (.lst [.str [97], .str [98]]) st := by
  unfold eAB
  rw [eA_at (aCons_at (rfl : eC (.str [97]) η st = _) (aCons_at (rfl : eC (.str [98]) η st = _) aNil_at))]
  exact mkLst_at (by decide)
theorem next_at {η : En} {st : Sto} (h : η[1]? = some (some (.loc 0))) (d : Draw.DrawAt 0 st) {b : Nat} (hb : 0 < b) : ∃ (r : Nat) (st' : Sto), eA F__law_next (aCons (eVar 1) (aCons (eC (.int b)) aNil)) η st = .ok (.int r) st' ∧ r < b ∧ Draw.DrawAt 0 st' := by
  obtain ⟨r, st', e, h1, h2, d', _⟩ := Draw.next_ok d b (by omega)
  obtain ⟨j, rfl⟩ := Int.eq_ofNat_of_zero_le h1
  refine ⟨j, st', ?_, by omega, d'⟩
  have ev : eVar 1 η st = .ok (.loc 0) st := by simp [eVar, h]
  rw [eA_at (aCons_at ev (aCons_at (rfl : eC (.int b) η st = _) aNil_at)), next_eq]
  exact e
theorem pickAB_at {η : En} {st : Sto} (h : η[1]? = some (some (.loc 0))) (d : Draw.DrawAt 0 st) : ∃ (c : Nat) (st' : Sto), eA F__law_pick (aCons (eVar 1) (aCons eAB aNil)) η st = .ok (.str [c]) st' ∧ (c = 97 ∨ c = 98) ∧ Draw.DrawAt 0 st' := by
  obtain ⟨x, st', hx, e, d', _⟩ := Draw.pick_ok d (xs := [.str [97], .str [98]]) (by simp)
  have ev : eVar 1 η st = .ok (.loc 0) st := by simp [eVar, h]
  have e2 : eA F__law_pick (aCons (eVar 1) (aCons eAB aNil)) η st = .ok x st' := by
    rw [eA_at (aCons_at ev (aCons_at (eAB_at η st) aNil_at)), pick_eq]
    exact e
  simp at hx
  rcases hx with rfl | rfl
  · exact ⟨97, st', e2, .inl rfl, d'⟩
  · exact ⟨98, st', e2, .inr rfl, d'⟩
theorem strs_of : ∀ vs : List PV, (∀ v ∈ vs, ∃ c : Nat, v = .str [c] ∧ (c = 97 ∨ c = 98)) → ∃ t : S, strsP vs = some (t.map fun c => [c]) ∧ t.length = vs.length ∧ IsAB t
  | [], _ => ⟨[], rfl, rfl, fun c h => by cases h⟩
  | v :: vs, h => by
    obtain ⟨c, rfl, hc⟩ := h v (by simp)
    obtain ⟨t, e, hl, ha⟩ := strs_of vs fun w hw => h w (by simp [hw])
    refine ⟨c :: t, by simp [strsP, e], by simp [hl], fun d hd => ?_⟩
    rcases List.mem_cons.mp hd with rfl | hd
    · exact hc
    · exact ha d hd
theorem join_cs : ∀ t : S, joinP [] (t.map fun c => [c]) = t
  | [] => rfl
  | [c] => rfl
  | c :: d :: t => by
    have ih := join_cs (d :: t)
    simp only [List.map_cons] at ih
    simp only [List.map_cons, joinP, ih]
    rfl
theorem sum_cs : ∀ t : S, sumLen (t.map fun c => [c]) = t.length
  | [] => rfl
  | c :: t => by
    simp only [List.map_cons, sumLen, sum_cs t, List.length_cons, List.length_nil]
    omega
theorem gJoin_cs {vs : List PV} {t : S} (h : strsP vs = some (t.map fun c => [c])) (hl : t.length ≤ LIM) (st : Sto) : gJoin (.str []) (.lst vs) st = .ok (.str t) st := by
  have e1 : decide (sumLen (t.map fun c => [c]) + (t.map fun c => [c]).length * ([] : List Nat).length ≤ LIM) = true := by
    rw [sum_cs]
    simpa using hl
  simp only [gJoin, seqOf, h, e1, join_cs]
theorem rangeL_len (n : Nat) : (rangeL 0 n).length = n := by simp [rangeL]
/-- a drawn text -/
theorem word_at {η : En} {st : Sto} (h : η[1]? = some (some (.loc 0))) (d : Draw.DrawAt 0 st) {b : Nat} (hb : 0 < b) (hb2 : b ≤ 1000) {i : Nat} (hi : i ≠ 1) :
    ∃ (t : S) (st' : Sto), eM 2 (m1 gJoin) (eC (.str [])) (aCons (eLC (iR1 (aCons (eA F__law_next (aCons (eVar 1) (aCons (eC (.int b)) aNil))) aNil)) [i] (.nm i) bYes (eA F__law_pick (aCons (eVar 1) (aCons eAB aNil)))) aNil) η st = .ok (.str t) st' ∧ t.length < b ∧ IsAB t ∧ Draw.DrawAt 0 st' := by
  obtain ⟨r, st1, e1, hr, d1⟩ := next_at h d hb
  have hg : rgOk (r : Int) = true := by
    rw [rgOk, Bool.and_eq_true, decide_eq_true_iff, decide_eq_true_iff]
    omega
  have e2 := iR1_at (aCons_at e1 aNil_at) hg
  have hw : (wipeE η [i])[1]? = some (some (.loc 0)) := by
    simp only [wipeE]
    rw [List.getElem?_set_ne hi]
    exact h
  obtain ⟨vs, st2, e3, hl, hv, d2⟩ := lcL_inv (t := .nm i) (f := eA F__law_pick (aCons (eVar 1) (aCons eAB aNil))) (η := wipeE η [i]) (I := Draw.DrawAt 0) (P := fun v => ∃ c : Nat, v = .str [c] ∧ (c = 97 ∨ c = 98)) (rangeL 0 r) (fun x _ st d => by
    have hw2 : ((wipeE η [i]).set i (some x))[1]? = some (some (.loc 0)) := by
      rw [List.getElem?_set_ne hi]
      exact hw
    obtain ⟨c, st', e, hc, d'⟩ := pickAB_at hw2 d
    exact ⟨_, _, st', rfl, e, ⟨c, rfl, hc⟩, d'⟩) st1 d1
  rw [rangeL_len] at hl
  obtain ⟨t, es, tl, ta⟩ := strs_of vs hv
  rw [Int.toNat_natCast] at e2
  have hl2 : vs.length ≤ LIM := by
    unfold LIM
    omega
  have e4 := eLC_at (own := [i]) e2 e3 hl2
  refine ⟨t, st2, ?_, by omega, ta, d2⟩
  show ((aCons _ aNil η st).bind fun as s => (m1 gJoin) (.str []) as s) = _
  rw [aCons_at e4 aNil_at]
  show gJoin (.str []) (.lst vs) st2 = _
  exact gJoin_cs es (by omega) st2
end K44

set_option Elab.async false
set_option linter.all false
set_option maxRecDepth 1000000
/-! K44N: the law's first rows: what is drawn. -/
namespace K44
open Pl
def due (ts : List S) (p : S) : PV := .tup ((idx (findSub p) 0 ts).map .int)
/-- what stands through the whole law -/
structure Wx (ts : List S) (p : S) (η : En) (st : Sto) : Prop where
  len : η.length = 28
  e1 : η[1]? = some (some (.loc 0))
  e2 : η[2]? = some (some (.tup (ts.map .str)))
  e3 : η[3]? = some (some (.str p))
  e4 : η[4]? = some (some (due ts p))
  d : Draw.DrawAt 0 st
theorem Wx.set {ts : List S} {p : S} {η : En} {st : Sto} (h : Wx ts p η st) {i : Nat} (hi : 5 ≤ i) (v : Option PV) : Wx ts p (η.set i v) st := by
  refine ⟨by rw [List.length_set]; exact h.len, ?_, ?_, ?_, ?_, h.d⟩
  · rw [List.getElem?_set_ne (by omega)]
    exact h.e1
  · rw [List.getElem?_set_ne (by omega)]
    exact h.e2
  · rw [List.getElem?_set_ne (by omega)]
    exact h.e3
  · rw [List.getElem?_set_ne (by omega)]
    exact h.e4
theorem Wx.wipe {ts : List S} {p : S} {η : En} {st : Sto} (h : Wx ts p η st) : ∀ is : List Nat, (∀ i ∈ is, 5 ≤ i) → Wx ts p (wipeE η is) st
  | [], _ => h
  | i :: is, hi => (Wx.wipe h is fun j hj => hi j (by simp [hj])).set (hi i (by simp)) none
theorem var_at {η : En} {i : Nat} {v : PV} (h : η[i]? = some (some v)) (st : Sto) : eVar i η st = .ok v st := by
  unfold eVar
  rw [h]
theorem get_set {η : En} {i : Nat} {v : PV} (h : i < η.length) : (η.set i (some v))[i]? = some (some v) := by
  rw [List.getElem?_set_self h]
theorem get_ne {η : En} {i j : Nat} {v w : Option PV} (h : η[j]? = some v) (n : i ≠ j) : (η.set i w)[j]? = some v := by
  rw [List.getElem?_set_ne n]
  exact h
theorem wipe_ne {η : En} {j : Nat} {v : Option PV} (h : η[j]? = some v) : ∀ is : List Nat, (∀ i ∈ is, i ≠ j) → (wipeE η is)[j]? = some v
  | [], _ => h
  | i :: is, hi => get_ne (wipe_ne h is fun k hk => hi k (by simp [hk])) (hi i (by simp))
theorem wipe_len {η : En} : ∀ is : List Nat, (wipeE η is).length = η.length
  | [] => rfl
  | i :: is => by
    show ((wipeE η is).set i none).length = _
    rw [List.length_set, wipe_len is]
theorem cut_ints (ns : List Int) (lo hi : Option Int) : ∃ ms : List Int, cut (ns.map PV.int) lo hi = ms.map PV.int := ⟨cut ns lo hi, by simp [cut, List.map_drop, List.map_take]⟩
def eta0 (ns : List Int) : En := some (.lst (ns.map .int)) :: List.replicate 27 none
theorem s1_at (ns : List Int) : ∃ st, S1_law (eta0 ns) [] = .nx ((eta0 ns).set 1 (some (.loc 0))) st ∧ Draw.DrawAt 0 st := by
  obtain ⟨ms, hm⟩ := cut_ints ns none (some 63)
  refine ⟨[.lst [.lst (ms.map .int), .int 0, .int 0]], ?_, ms, 0, rfl, by omega⟩
  have e : eSl (eVar 0) pNone (pSome (eC (.int 63))) (eta0 ns) [] = .ok (.lst (ms.map .int)) [] := by
    show oSl (.lst (ns.map .int)) none (some 63) [] = _
    simp [oSl, seqOf, hm]
  unfold S1_law
  refine sSet_at (i := 1) ?_
  rw [eA_at (aCons_at e (aCons_at (rfl : eC (.int 0) _ [] = _) (aCons_at (rfl : eC (.int 0) _ [] = _) aNil_at)))]
  rfl
theorem texts_at {η : En} {st : Sto} (h : η[1]? = some (some (.loc 0))) (d : Draw.DrawAt 0 st) : ∃ (ts : List S) (st' : Sto), S2_law η st = .nx (η.set 2 (some (.tup (ts.map .str)))) st' ∧ ts.length ≤ 7 ∧ 1 ≤ ts.length ∧ (∀ t ∈ ts, IsT t) ∧ Draw.DrawAt 0 st' := by
  obtain ⟨r, st1, e1, hr, d1⟩ := next_at h d (b := 7) (by decide)
  have e1 : eA F__law_next (aCons (eVar 1) (aCons (eC (.int 7)) aNil)) η st = .ok (.int r) st1 := e1
  have e2 : eB oAdd (eC (.int 1)) (eA F__law_next (aCons (eVar 1) (aCons (eC (.int 7)) aNil))) η st = .ok (.int ((r + 1 : Nat) : Int)) st1 := by
    rw [eB_at (rfl : eC (.int 1) η st = _) e1]
    show R.ok (PV.int (1 + (r : Int))) st1 = _
    rw [Int.natCast_add, Int.add_comm]
    rfl
  have hg : rgOk ((r + 1 : Nat) : Int) = true := by
    rw [rgOk, Bool.and_eq_true, decide_eq_true_iff, decide_eq_true_iff]
    omega
  have e3 := iR1_at (aCons_at e2 aNil_at) hg
  rw [Int.toNat_natCast] at e3
  have hw : (wipeE η [12])[1]? = some (some (.loc 0)) := wipe_ne h [12] (by simp)
  obtain ⟨vs, st2, e4, hl, hv, d2⟩ := lcL_inv (t := .nm 12) (f := eM 2 (m1 gJoin) (eC (.str [])) (aCons (eLC (iR1 (aCons (eA F__law_next (aCons (eVar 1) (aCons (eC (.int 10)) aNil))) aNil)) [22] (.nm 22) bYes (eA F__law_pick (aCons (eVar 1) (aCons eAB aNil)))) aNil)) (η := wipeE η [12]) (I := Draw.DrawAt 0) (P := fun v => ∃ t : S, v = .str t ∧ IsT t) (rangeL 0 (r + 1)) (fun x _ st d => by
    have hw2 : ((wipeE η [12]).set 12 (some x))[1]? = some (some (.loc 0)) := get_ne hw (by decide)
    obtain ⟨t, st', e, hl, ha, d'⟩ := word_at hw2 d (b := 10) (by decide) (by decide) (i := 22) (by decide)
    exact ⟨_, _, st', rfl, e, ⟨t, rfl, by omega, ha⟩, d'⟩) st1 d1
  rw [rangeL_len] at hl
  have ht : ∃ ts : List S, vs = ts.map .str ∧ ∀ t ∈ ts, IsT t := by
    clear e4 hl
    induction vs with
    | nil => exact ⟨[], rfl, fun t h => by cases h⟩
    | cons v vs ih =>
      obtain ⟨t, rfl, ht⟩ := hv v (by simp)
      obtain ⟨ts, rfl, hts⟩ := ih fun w hw => hv w (by simp [hw])
      refine ⟨t :: ts, rfl, fun u hu => ?_⟩
      rcases List.mem_cons.mp hu with rfl | hu
      · exact ht
      · exact hts u hu
  obtain ⟨ts, rfl, hts⟩ := ht
  rw [List.length_map] at hl
  have hl2 : (ts.map PV.str).length ≤ LIM := by
    rw [List.length_map]
    unfold LIM
    omega
  have e5 := eLC_at (own := [12]) e3 e4 hl2
  refine ⟨ts, st2, ?_, by omega, by omega, hts, d2⟩
  show sSet 2 (eA (o1 gTuple) (aCons (eLC (iR1 (aCons (eB oAdd (eC (.int 1)) (eA F__law_next (aCons (eVar 1) (aCons (eC (.int 7)) aNil)))) aNil)) [12] (.nm 12) bYes (eM 2 (m1 gJoin) (eC (.str [])) (aCons (eLC (iR1 (aCons (eA F__law_next (aCons (eVar 1) (aCons (eC (.int 10)) aNil))) aNil)) [22] (.nm 22) bYes (eA F__law_pick (aCons (eVar 1) (aCons eAB aNil)))) aNil))) aNil)) η st = _
  exact sSet_at (eA1_at e5)
theorem part_at {η : En} {st : Sto} (h : η[1]? = some (some (.loc 0))) (d : Draw.DrawAt 0 st) : ∃ (p : S) (st' : Sto), S3_law η st = .nx (η.set 3 (some (.str p))) st' ∧ p.length ≤ 3 ∧ IsAB p ∧ Draw.DrawAt 0 st' := by
  obtain ⟨t, st', e, hl, ha, d'⟩ := word_at h d (b := 4) (by decide) (by decide) (i := 12) (by decide)
  refine ⟨t, st', ?_, by omega, ha, d'⟩
  show sSet 3 (eM 2 (m1 gJoin) (eC (.str [])) (aCons (eLC (iR1 (aCons (eA F__law_next (aCons (eVar 1) (aCons (eC (.int 4)) aNil))) aNil)) [12] (.nm 12) bYes (eA F__law_pick (aCons (eVar 1) (aCons eAB aNil)))) aNil)) η st = _
  exact sSet_at e
/-- numbers of the texts that a test takes: a comprehension over enumerate(texts) -/
theorem enum_lc {η : En} {st : Sto} {c : BF} (q : S → Bool) (i j : Nat) (hij : i ≠ j) (hl : i < η.length ∧ j < η.length) : ∀ (ts : List S) (k : Nat), (∀ t ∈ ts, ∀ n : Nat, c ((η.set i (some (.int n))).set j (some (.str t))) st = .ok (q t) st) →
    lcL (.tp [.nm i, .nm j]) c (eVar i) η (enumP k (ts.map .str)) st = .ok ((idx q k ts).map .int) st
  | [], k, _ => rfl
  | t :: ts, k, h => by
    have ih := enum_lc q i j hij hl ts (k + 1) fun u hu => h u (by simp [hu])
    have h1 := h t (by simp) k
    have ev : eVar i ((η.set i (some (.int (k : Int)))).set j (some (.str t))) st = .ok (.int k) st := var_at (get_ne (get_set hl.1) hij.symm) st
    show lcL (.tp [.nm i, .nm j]) c (eVar i) η (.tup [.int k, .str t] :: enumP (k + 1) (ts.map .str)) st = _
    simp only [lcL, Tg.bind, Tg.binds, h1, R.bind, idx]
    cases q t with
    | true => simp only [ev, ih, if_true, List.map_cons]
    | false => simp only [ih, Bool.false_eq_true, if_false]
end K44

set_option Elab.async false
set_option linter.all false
set_option maxRecDepth 1000000
/-! K44O: small laws of the plain operations. -/
namespace K44
open Pl
theorem eqvs_int : ∀ a b : List Int, PV.eqvs (a.map .int) (b.map .int) = (a == b)
  | [], [] => rfl
  | [], _ :: _ => rfl
  | _ :: _, [] => rfl
  | x :: a, y :: b => by
    have ih := eqvs_int a b
    show (x == y && PV.eqvs (a.map .int) (b.map .int)) = _
    rw [ih]
    rfl
theorem eqvs_str : ∀ a b : List S, PV.eqvs (a.map .str) (b.map .str) = (a == b)
  | [], [] => rfl
  | [], _ :: _ => rfl
  | _ :: _, [] => rfl
  | x :: a, y :: b => by
    have ih := eqvs_str a b
    show (x == y && PV.eqvs (a.map .str) (b.map .str)) = _
    rw [ih]
    rfl
section
variable {st : Sto}
theorem ne_ints (a b : List Int) : oNe (.tup (a.map .int)) (.tup (b.map .int)) st = .ok (.bl (!(a == b))) st := by
  simp [oNe, deref, PV.pl, pls_int, PV.eqv, eqvs_int]
theorem eq_strs (a b : List S) : oEq (.tup (a.map .str)) (.tup (b.map .str)) st = .ok (.bl (a == b)) st := by
  simp [oEq, deref, PV.pl, pls_str, PV.eqv, eqvs_str]
theorem ne_strs (a b : List S) : oNe (.tup (a.map .str)) (.tup (b.map .str)) st = .ok (.bl (!(a == b))) st := by
  simp [oNe, deref, PV.pl, pls_str, PV.eqv, eqvs_str]
theorem ne_lstrs (a b : List S) : oNe (.lst (a.map .str)) (.lst (b.map .str)) st = .ok (.bl (!(a == b))) st := by
  simp [oNe, deref, PV.pl, pls_str, PV.eqv, eqvs_str]
theorem ne_int (a b : Int) : oNe (.int a) (.int b) st = .ok (.bl (!(a == b))) st := by
  simp [oNe, deref, PV.pl, PV.eqv]
theorem eq_int (a b : Int) : oEq (.int a) (.int b) st = .ok (.bl (a == b)) st := by
  simp [oEq, deref, PV.pl, PV.eqv]
theorem eq_str (a b : S) : oEq (.str a) (.str b) st = .ok (.bl (a == b)) st := by
  simp [oEq, deref, PV.pl, PV.eqv]
theorem ne_bl (a b : Bool) : oNe (.bl a) (.bl b) st = .ok (.bl (!(a == b))) st := by
  simp [oNe, deref, PV.pl, PV.eqv]
theorem eq_bl (a b : Bool) : oEq (.bl a) (.bl b) st = .ok (.bl (a == b)) st := by
  simp [oEq, deref, PV.pl, PV.eqv]
theorem in_ints (neg : Bool) (j : Int) (l : List Int) : oInD neg (.int j) (.tup (l.map .int)) st = .ok (.bl (if neg then !l.contains j else l.contains j)) st := by
  simp [oInD, dctOf, oIn, seqOf, PV.pl, pls_int, anyEqv_int]
theorem anyEqv_str (j : S) : ∀ l : List S, anyEqv (.str j) (l.map .str) = l.contains j
  | [] => rfl
  | x :: l => by
    have ih := anyEqv_str j l
    show (x == j || anyEqv (.str j) (l.map .str)) = _
    rw [ih, List.contains_cons, Bool.eq_iff_iff]
    simp only [Bool.or_eq_true, beq_iff_eq]
    exact ⟨fun h => h.elim (fun e => .inl e.symm) .inr, fun h => h.elim (fun e => .inl e.symm) .inr⟩
theorem in_strs (neg : Bool) (j : S) (l : List S) : oInD neg (.str j) (.tup (l.map .str)) st = .ok (.bl (if neg then !l.contains j else l.contains j)) st := by
  simp [oInD, dctOf, oIn, seqOf, PV.pl, pls_str, anyEqv_str]
theorem in_sub (neg : Bool) (x y : S) : oInD neg (.str x) (.str y) st = .ok (.bl (if neg then !findSub x y else findSub x y)) st := rfl
theorem len_tup (xs : List PV) : gLenD (.tup xs) st = .ok (.int xs.length) st := rfl
theorem len_dct (xs : List (PV × PV)) : gLenD (.dct xs) st = .ok (.int xs.length) st := rfl
theorem len_str {c : S} (h : c.length ≤ 1000) : gLenD (.str c) st = .ok (.int c.length) st := by
  have h2 : c.length ≤ LIM := by
    unfold LIM
    omega
  show (if c.length ≤ LIM then R.ok (PV.int c.length) st else .stuck) = _
  rw [if_pos h2]
theorem ix_tup {xs : List PV} {j : Nat} {v : PV} (h : xs[j]? = some v) : oIxD (.tup xs) (.int j) st = .ok v st := by
  have e : L2.atI xs (j : Int) = some v := L2.atI_nat h
  show oIx (.tup xs) (.int j) st = _
  simp only [oIx, seqOf, e]
end
section
variable {η : En} {st : Sto}
theorem iAny_at {f : EF} {v : PV} {xs : List PV} {s : Sto} (h : f η st = .ok v s) (k : iterP v = some xs) : iAny f η st = .ok xs s := by
  unfold iAny
  rw [h]
  show (match iterP v with
    | some xs => _
    | none => _) = _
  rw [k]
theorem lc_map {α : Type} (c g : α → PV) (i : Nat) {f : EF} : ∀ xs : List α, (∀ x ∈ xs, f (η.set i (some (c x))) st = .ok (g x) st) → lcL (.nm i) bYes f η (xs.map c) st = .ok (xs.map g) st
  | [], _ => rfl
  | x :: xs, h => by
    have ih := lc_map c g i xs fun y hy => h y (by simp [hy])
    simp only [List.map_cons, lcL, Tg.bind, bYes, R.bind, h x (by simp), ih]
theorem wipe1 (i : Nat) (v : Option PV) : (wipeE η [i]).set i v = η.set i v := by
  show (η.set i none).set i v = _
  rw [List.set_set]
theorem lc_at {α : Type} (c g : α → PV) (i : Nat) {it : IF} {f : EF} {xs : List α} (h : it η st = .ok (xs.map c) st) (l : xs.length ≤ 1000) (k : ∀ x ∈ xs, f (η.set i (some (c x))) st = .ok (g x) st) : eLC it [i] (.nm i) bYes f η st = .ok (.lst (xs.map g)) st := by
  refine eLC_at h (lc_map c g i xs fun x hx => ?_) ?_
  · rw [wipe1]
    exact k x hx
  · rw [List.length_map]
    unfold LIM
    omega
theorem bools_at {α : Type} (F : List Bool → Bool) (c : α → PV) (q : α → Bool) (i : Nat) {it : IF} {f : EF} {xs : List α} (h : it η st = .ok (xs.map c) st) (l : xs.length ≤ 1000) (k : ∀ x ∈ xs, f (η.set i (some (c x))) st = .ok (.bl (q x)) st) : eA (o1 (gBools F)) (aCons (eLC it [i] (.nm i) bYes f) aNil) η st = .ok (.bl (F (xs.map q))) st := by
  rw [eA1_at (lc_at c (fun x => .bl (q x)) i h l k)]
  have hb := boolsP_map (fun x : α => PV.bl (q x)) q xs fun _ _ => rfl
  simp only [gBools, lstOf, seqOf, hb]
theorem any_at {α : Type} (c : α → PV) (q : α → Bool) (i : Nat) {it : IF} {f : EF} {xs : List α} (h : it η st = .ok (xs.map c) st) (l : xs.length ≤ 1000) (k : ∀ x ∈ xs, f (η.set i (some (c x))) st = .ok (.bl (q x)) st) : eA (o1 (gBools fun bs => bs.any id)) (aCons (eLC it [i] (.nm i) bYes f) aNil) η st = .ok (.bl (xs.any q)) st := by
  rw [bools_at _ c q i h l k, List.any_map]
  rfl
theorem all_at {α : Type} (c : α → PV) (q : α → Bool) (i : Nat) {it : IF} {f : EF} {xs : List α} (h : it η st = .ok (xs.map c) st) (l : xs.length ≤ 1000) (k : ∀ x ∈ xs, f (η.set i (some (c x))) st = .ok (.bl (q x)) st) : eA (o1 (gBools fun bs => bs.all id)) (aCons (eLC it [i] (.nm i) bYes f) aNil) η st = .ok (.bl (xs.all q)) st := by
  rw [bools_at _ c q i h l k, List.all_map]
  rfl
/-- none of them: `any` is false -/
theorem any_no {α : Type} (c : α → PV) (i : Nat) {it : IF} {f : EF} {xs : List α} (h : it η st = .ok (xs.map c) st) (l : xs.length ≤ 1000) (k : ∀ x ∈ xs, f (η.set i (some (c x))) st = .ok (.bl false) st) : bV (eA (o1 (gBools fun bs => bs.any id)) (aCons (eLC it [i] (.nm i) bYes f) aNil)) η st = .ok false st := by
  refine bV_at ?_
  rw [any_at c (fun _ => false) i h l k]
  congr 2
  induction xs with
  | nil => rfl
  | cons x xs ih => simp
theorem all_yes {α : Type} (c : α → PV) (i : Nat) {it : IF} {f : EF} {xs : List α} (h : it η st = .ok (xs.map c) st) (l : xs.length ≤ 1000) (k : ∀ x ∈ xs, f (η.set i (some (c x))) st = .ok (.bl true) st) : eA (o1 (gBools fun bs => bs.all id)) (aCons (eLC it [i] (.nm i) bYes f) aNil) η st = .ok (.bl true) st := by
  rw [all_at c (fun _ => true) i h l k]
  congr 2
  induction xs with
  | nil => rfl
  | cons x xs ih => simp
theorem if_no {c : BF} {F : SF} (h : c η st = .ok false st) : sIf c F sNil η st = .nx η st := by
  rw [sIf_f h]
  rfl
theorem asg2_at {i j : Nat} {f : EF} {a b : PV} {s : Sto} (h : f η st = .ok (.tup [a, b]) s) : sAsg (.tp [.nm i, .nm j]) f η st = .nx ((η.set i (some a)).set j (some b)) s := by
  unfold sAsg
  rw [h]
  rfl
theorem par_at {i j : Nat} {f g : EF} {a b : PV} {s s' : Sto} (h : f η st = .ok a s) (k : g η s = .ok b s') : sPar i j f g η st = .nx ((η.set i (some a)).set j (some b)) s' := by
  unfold sPar
  rw [h]
  show (R.toS (g η s) η _) = _
  rw [k]
  rfl
theorem eAnd_at {f g : EF} {a b : Bool} {s : Sto} (h : f η st = .ok (.bl a) s) (k : a = true → g η s = .ok (.bl b) s) : eAnd f g η st = .ok (.bl (a && b)) s := by
  unfold eAnd
  rw [h]
  cases a with
  | true =>
    show g η s = _
    rw [k rfl]
    rfl
  | false => rfl
theorem eOr_at {f g : EF} {a b : Bool} {s : Sto} (h : f η st = .ok (.bl a) s) (k : a = false → g η s = .ok (.bl b) s) : eOr f g η st = .ok (.bl (a || b)) s := by
  unfold eOr
  rw [h]
  cases a with
  | false =>
    show g η s = _
    rw [k rfl]
    rfl
  | true => rfl
theorem bAnd_at {f g : BF} {a b : Bool} {s : Sto} (h : f η st = .ok a s) (k : a = true → g η s = .ok b s) : bAnd f g η st = .ok (a && b) s := by
  unfold bAnd
  rw [h]
  cases a with
  | true =>
    show g η s = _
    rw [k rfl]
    rfl
  | false => rfl
theorem bOr_at {f g : BF} {a b : Bool} {s : Sto} (h : f η st = .ok a s) (k : a = false → g η s = .ok b s) : bOr f g η st = .ok (a || b) s := by
  unfold bOr
  rw [h]
  cases a with
  | false =>
    show g η s = _
    rw [k rfl]
    rfl
  | true => rfl
theorem bNot_at {f : BF} {a : Bool} {s : Sto} (h : f η st = .ok a s) : bNot f η st = .ok (!a) s := by
  unfold bNot
  rw [h]
  rfl
theorem eIf_at {c : BF} {f g : EF} {b : Bool} {u v : PV} {s s' : Sto} (h : c η st = .ok b s) (k : b = true → f η s = .ok u s') (l : b = false → g η s = .ok v s') : eIf c f g η st = .ok (if b = true then u else v) s' := by
  unfold eIf
  rw [h]
  cases b with
  | true =>
    show f η s = _
    rw [k rfl]
    rfl
  | false =>
    show g η s = _
    rw [l rfl]
    rfl
theorem eC_at (v : PV) : eC v η st = .ok v st := rfl
theorem a1_at {f : EF} {v : PV} {s : Sto} (h : f η st = .ok v s) : aCons f aNil η st = .ok [v] s := aCons_at h aNil_at
end
end K44

set_option Elab.async false
set_option linter.all false
set_option maxRecDepth 1000000
/-! K44Q: one width: what stands; its first rows. -/
namespace K44
open Pl
def rowsI (w : Nat) (ts : List S) (p : S) : List Int := idx (rowB w p) 0 ts
def rowsP (w : Nat) (ts : List S) (p : S) : PV := .tup ((rowsI w ts p).map .int)
def lastP (w : Nat) (ts : List S) (p : S) : PV := if w ≤ p.length then rowsP w ts p else .non
structure Gx (w : Nat) (ts : List S) (p : S) : Prop where
  len : ts.length ≤ 7
  ne : ts ≠ []
  w : w = 1 ∨ w = 2
  ts : ∀ t ∈ ts, IsT t
  p : IsP p
structure Lx (w : Nat) (ts : List S) (p : S) (v L : PV) (η : En) (st : Sto) : Prop where
  x : Wx ts p η st
  e5 : η[5]? = some (some L)
  e6 : η[6]? = some (some (.int w))
  e9 : η[9]? = some (some (.dct (tab w ts)))
  e10 : η[10]? = some (some (rowsP w ts p))
  e11 : η[11]? = some (some v)
section
variable {w : Nat} {ts : List S} {p : S} {v L : PV} {η : En} {st : Sto}
theorem Lx.set (h : Lx w ts p v L η st) {i : Nat} (hi : 12 ≤ i) (u : Option PV) : Lx w ts p v L (η.set i u) st :=
  ⟨h.x.set (by omega) u, get_ne h.e5 (by omega), get_ne h.e6 (by omega), get_ne h.e9 (by omega), get_ne h.e10 (by omega), get_ne h.e11 (by omega)⟩
theorem Wx.at' (h : Wx ts p η st) {i : Nat} (hi : i < 28) (v : PV) : (η.set i (some v))[i]? = some (some v) := get_set (by rw [h.len]; exact hi)
theorem len_ts (x : Wx ts p η st) : eA (o1 gLenD) (aCons (eVar 2) aNil) η st = .ok (.int ts.length) st := by
  rw [eA1_at (var_at x.e2 st), len_tup, List.length_map]
theorem len_p (x : Wx ts p η st) (hp : IsP p) : eA (o1 gLenD) (aCons (eVar 3) aNil) η st = .ok (.int p.length) st := by
  rw [eA1_at (var_at x.e3 st)]
  have := hp.1
  exact len_str (by omega)
theorem runs_at (g : Gx w ts p) {f : EF} {t : S} (ht : IsT t) (h : f η st = .ok (.str t) st) (e6 : η[6]? = some (some (.int w))) : eA (frm F_runs_of) (aCons (eC (.str [97, 98])) (aCons f (aCons (eVar 6) aNil))) η st = .ok (.tup ((runs w t).map .str)) st := by
  rw [eA_at (aCons_at (eC_at _) (aCons_at h (aCons_at (var_at e6 st) aNil_at)))]
  exact (runsOk g.w).2.2 t ht st
theorem idx_sub {q q2 : S → Bool} : ∀ (ts : List S) (i : Nat) (x : Int), x ∈ idx q i ts → (∀ t ∈ ts, q t = true → q2 t = true) → x ∈ idx q2 i ts
  | [], i, x, h, _ => h
  | t :: ts, i, x, h, k => by
    have key : x ∈ idx q (i + 1) ts → x ∈ idx q2 (i + 1) ts := fun m => idx_sub ts (i + 1) x m fun u hu => k u (by simp [hu])
    simp only [idx] at h ⊢
    by_cases e : q t = true
    · rw [if_pos e] at h
      rw [if_pos (k t (by simp) e)]
      rcases List.mem_cons.mp h with rfl | h
      · simp
      · exact List.mem_cons_of_mem _ (key h)
    · rw [if_neg e] at h
      split
      · exact List.mem_cons_of_mem _ (key h)
      · exact key h
theorem s7_at (g : Gx w ts p) (x : Wx ts p η st) (e6 : η[6]? = some (some (.int w))) : S7_law η st = .nx (η.set 9 (some (.dct (tab w ts)))) st := by
  unfold S7_law
  refine sSet_at ?_
  rw [eA_at (aCons_at (eC_at _) (aCons_at (var_at x.e2 st) (aCons_at (var_at e6 st) aNil_at)))]
  exact postings_ok (runsOk g.w) g.ts g.len st
theorem s8_at (g : Gx w ts p) (x : Wx ts p η st) (e6 : η[6]? = some (some (.int w))) : S8_law η st = .nx ((η.set 13 (some (due ts p))).set 14 (some (.int (rowsI w ts p).length))) st := by
  unfold S8_law
  refine asg2_at ?_
  rw [eA_at (aCons_at (eC_at _) (aCons_at (var_at x.e2 st) (aCons_at (var_at e6 st) (aCons_at (var_at x.e3 st) aNil_at))))]
  have e := search_ok (runsOk g.w) g.ts g.len g.p.t st
  have e2 : idx (fun t => ((runs w p).all fun r => findSub r t) && findSub p t) 0 ts = idx (findSub p) 0 ts := idx_congr ts 0 fun t ht => by
    by_cases f : findSub p t = true
    · have := due_row g.w g.p (g.ts t ht) f
      unfold rowB at this
      rw [f, this]
      rfl
    · have f2 : findSub p t = false := by simpa using f
      rw [f2, Bool.and_false]
  rw [e2] at e
  exact e
theorem s9_at (g : Gx w ts p) (x : Wx ts p η st) (e6 : η[6]? = some (some (.int w))) (e9 : η[9]? = some (some (.dct (tab w ts)))) : S9_law η st = .nx (η.set 10 (some (rowsP w ts p))) st := by
  unfold S9_law
  refine sSet_at ?_
  rw [eA_at (aCons_at (eC_at _) (aCons_at (var_at e9 st) (aCons_at (var_at e6 st) (aCons_at (len_ts x) (aCons_at (var_at x.e3 st) aNil_at)))))]
  have hl := g.len
  have e := may_ok (runsOk g.w) (tab_f g.w ts) (n := ts.length) (by omega) g.p.t st
  rw [rows_idx] at e
  exact e
theorem s10_at (g : Gx w ts p) (x : Wx ts p η st) (e10 : η[10]? = some (some (rowsP w ts p))) (e13 : η[13]? = some (some (due ts p))) (e14 : η[14]? = some (some (.int (rowsI w ts p).length))) : S10_law η st = .nx η st := by
  unfold S10_law
  refine if_no (bOr_f (s := st) (bV_at ?_) (bOr_f (s := st) (bV_at ?_) ?_))
  · rw [eB_at (var_at e13 st) (var_at x.e4 st)]
    exact (ne_ints _ _).trans (by simp)
  · rw [eB_at (var_at e14 st) (eA1_at (o := gLenD) (var_at e10 st))]
    rw [List.length_map]
    exact (ne_int _ _).trans (by simp)
  · have hl := idx_length (findSub p) ts 0
    have hl2 := g.len
    refine any_no PV.int 15 (xs := idx (findSub p) 0 ts) (iAny_at (var_at x.e4 st) rfl) (by omega) fun j hj => ?_
    rw [eB_at (var_at (x.at' (by decide) _) st) (var_at (get_ne e10 (by decide)) st)]
    have h2 := idx_sub (q2 := rowB w p) ts 0 j hj fun t ht f => due_row g.w g.p (g.ts t ht) f
    refine (in_ints true j (rowsI w ts p)).trans ?_
    have h3 : (rowsI w ts p).contains j = true := by
      rw [List.contains_iff_mem]
      exact h2
    rw [h3]
    rfl
theorem head_at (g : Gx w ts p) (x : Wx ts p η st) (e5 : η[5]? = some (some L)) (e6 : η[6]? = some (some (.int w))) (rest : SF) : ∃ η' v, Told w p v ∧ Lx w ts p v L η' st ∧ sSeq S7_law (sSeq S8_law (sSeq S9_law (sSeq S10_law (sSeq S12_law rest)))) η st = rest η' st := by
  obtain ⟨v, tv, ev⟩ := told_ok g.w g.p
  rw [sSeq_at (s7_at g x e6)]
  have x1 := x.set (i := 9) (by decide) (some (.dct (tab w ts)))
  have a9 := x.at' (i := 9) (by decide) (.dct (tab w ts))
  have a6 : (η.set 9 (some (.dct (tab w ts))))[6]? = some (some (.int w)) := get_ne e6 (by decide)
  have a5 : (η.set 9 (some (.dct (tab w ts))))[5]? = some (some L) := get_ne e5 (by decide)
  generalize η.set 9 (some (.dct (tab w ts))) = η1 at x1 a9 a6 a5 ⊢
  rw [sSeq_at (s8_at g x1 a6)]
  have x2 := (x1.set (i := 13) (by decide) (some (due ts p))).set (i := 14) (by decide) (some (.int (rowsI w ts p).length))
  have b13 : ((η1.set 13 (some (due ts p))).set 14 (some (.int (rowsI w ts p).length)))[13]? = some (some (due ts p)) := get_ne (x1.at' (by decide) _) (by decide)
  have b14 := (x1.set (i := 13) (by decide) (some (due ts p))).at' (i := 14) (by decide) (.int (rowsI w ts p).length)
  have b9 : ((η1.set 13 (some (due ts p))).set 14 (some (.int (rowsI w ts p).length)))[9]? = some (some (.dct (tab w ts))) := get_ne (get_ne a9 (by decide)) (by decide)
  have b6 : ((η1.set 13 (some (due ts p))).set 14 (some (.int (rowsI w ts p).length)))[6]? = some (some (.int w)) := get_ne (get_ne a6 (by decide)) (by decide)
  have b5 : ((η1.set 13 (some (due ts p))).set 14 (some (.int (rowsI w ts p).length)))[5]? = some (some L) := get_ne (get_ne a5 (by decide)) (by decide)
  generalize (η1.set 13 (some (due ts p))).set 14 (some (.int (rowsI w ts p).length)) = η2 at x2 b13 b14 b9 b6 b5 ⊢
  rw [sSeq_at (s9_at g x2 b6 b9)]
  have x3 := x2.set (i := 10) (by decide) (some (rowsP w ts p))
  have c10 := x2.at' (i := 10) (by decide) (rowsP w ts p)
  have c13 : (η2.set 10 (some (rowsP w ts p)))[13]? = _ := get_ne b13 (by decide)
  have c14 : (η2.set 10 (some (rowsP w ts p)))[14]? = _ := get_ne b14 (by decide)
  have c9 : (η2.set 10 (some (rowsP w ts p)))[9]? = _ := get_ne b9 (by decide)
  have c6 : (η2.set 10 (some (rowsP w ts p)))[6]? = _ := get_ne b6 (by decide)
  have c5 : (η2.set 10 (some (rowsP w ts p)))[5]? = _ := get_ne b5 (by decide)
  generalize η2.set 10 (some (rowsP w ts p)) = η3 at x3 c10 c13 c14 c9 c6 c5 ⊢
  rw [sSeq_at (s10_at g x3 c10 c13 c14)]
  have e12 : S12_law η3 st = .nx (η3.set 11 (some v)) st := by
    unfold S12_law
    refine sSet_at ?_
    rw [eA_at (aCons_at (eC_at _) (aCons_at (var_at c6 st) (aCons_at (var_at x3.e3 st) aNil_at)))]
    exact ev st
  rw [sSeq_at e12]
  exact ⟨_, v, tv, ⟨x3.set (by decide) _, get_ne c5 (by decide), get_ne c6 (by decide), get_ne c9 (by decide), get_ne c10 (by decide), x3.at' (by decide) _⟩, rfl⟩
theorem ix0 {a : PV} {xs : List PV} : oIxD (.tup (a :: xs)) (.int 0) st = .ok a st := ix_tup (j := 0) rfl
theorem ix1 {a b : PV} {xs : List PV} : oIxD (.tup (a :: b :: xs)) (.int 1) st = .ok b st := ix_tup (j := 1) rfl
theorem hks_str (n : Nat) : ∀ l : List S, PV.hks n (l.map .str) = true
  | [] => rfl
  | x :: l => by simp [PV.hks, PV.hk, hks_str n l]
theorem ix_dct {kvs : List (PV × PV)} {l : List S} {v : PV} (h : dVal kvs (.tup (l.map .str)) = some v) : oIxD (.dct kvs) (.tup (l.map .str)) st = .ok v st := by
  have hk : okKey kvs (.tup (l.map .str)) = true := by simp [okKey, PV.hk, hks_str, PV.isTup]
  simp only [oIxD, dctOf, hk, if_true, h]
theorem enum_it (x : Wx ts p η st) : iEnumF (aCons (eVar 2) aNil) η st = .ok (enumP 0 (ts.map .str)) st := by
  unfold iEnumF
  rw [a1_at (var_at x.e2 st)]
  rfl
theorem is_exact {b : Bool} {a : PV} {xs : List PV} (h11 : η[11]? = some (some (.tup (a :: xs)))) (h : oEq a (.str [101, 120, 97, 99, 116]) st = .ok (.bl b) st) : bV (eB oEq (eB oIxD (eVar 11) (eC (.int 0))) (eC (.str [101, 120, 97, 99, 116]))) η st = .ok b st := by
  refine bV_at ?_
  rw [eB_at ((eB_at (var_at h11 st) (eC_at _)).trans ix0) (eC_at _)]
  exact h
theorem len_eq (g : Gx w ts p) (h : Lx w ts p v L η st) : bV (eB oEq (eA (o1 gLenD) (aCons (eVar 3) aNil)) (eVar 6)) η st = .ok (decide (p.length = w)) st := by
  refine bV_at ?_
  rw [eB_at (len_p h.x g.p) (var_at h.e6 st)]
  refine (eq_int _ _).trans ?_
  congr 2
  rw [Bool.eq_iff_iff]
  simp only [beq_iff_eq, decide_eq_true_iff]
  omega
theorem s13_at (g : Gx w ts p) (h : Lx w ts p v L η st) (tv : Told w p v) : S13_law η st = .nx η st := by
  have hl := g.len
  unfold S13_law
  cases tv with
  | exact hp hd =>
    rw [sIf_t (is_exact (b := true) h.e11 ((eq_str _ _).trans rfl))]
    have e14 : S14_law η st = .nx η st := by
      unfold S14_law
      refine if_no (bV_at ?_)
      have h1 : Lx w ts p _ L (wipeE η [15, 16]) st := (h.set (i := 16) (by decide) none).set (i := 15) (by decide) none
      have e := enum_lc (η := wipeE η [15, 16]) (st := st) (c := bV (eB oIxD (eB oIxD (eVar 11) (eC (.int 1))) (eA (frm F_runs_of) (aCons (eC (.str [97, 98])) (aCons (eVar 16) (aCons (eVar 6) aNil)))))) (findSub p) 15 16 (by decide) (by rw [h1.x.len]; decide) ts 0 fun t ht n => by
        have h2 := (h1.set (i := 15) (by decide) (some (.int n))).set (i := 16) (by decide) (some (.str t))
        have e16 := (h1.set (i := 15) (by decide) (some (.int n))).x.at' (i := 16) (by decide) (.str t)
        refine bV_at ?_
        rw [eB_at ((eB_at (var_at h2.e11 st) (eC_at _)).trans ix1) (runs_at g (g.ts t ht) (var_at e16 st) h2.e6)]
        exact ix_dct (hd t (g.ts t ht))
      have hl2 := idx_length (findSub p) ts 0
      have e2 := eLC_at (own := [15, 16]) (enum_it h.x) e (by
        rw [List.length_map]
        unfold LIM
        omega)
      rw [eB_at (var_at h.x.e4 st) ((eA1_at (o := gTuple) e2).trans rfl)]
      exact (ne_ints _ _).trans (by simp)
    rw [sSeq_at e14]
    unfold S16_law
    refine if_no ?_
    by_cases hw : p.length = w
    · refine bAnd_t (s := st) ((len_eq g h).trans (by rw [decide_eq_true hw])) (bV_at ?_)
      rw [eB_at (var_at h.e10 st) (var_at h.x.e4 st)]
      refine (ne_ints _ _).trans ?_
      have e3 : rowsI w ts p = idx (findSub p) 0 ts := idx_congr ts 0 fun t ht => part_row g.w g.p hw (g.ts t ht)
      rw [e3]
      simp
    · exact bAnd_f ((len_eq g h).trans (by rw [decide_eq_false hw]))
  | apart a b h1 h2 =>
    rw [sIf_f (is_exact (b := false) h.e11 ((eq_str _ _).trans rfl))]
    unfold S18_law
    refine if_no (bOr_f (s := st) ((len_eq g h).trans (by rw [decide_eq_false h2])) (bV_at ?_))
    rw [eB_at (var_at h.x.e3 st) (eC_at _)]
    refine (eq_str _ _).trans ?_
    rw [beq_eq_false_iff_ne.mpr h1]
theorem ge_at (g : Gx w ts p) (h : Lx w ts p v L η st) : bV (eB (oI fun i j => decide (j ≤ i)) (eA (o1 gLenD) (aCons (eVar 3) aNil)) (eVar 6)) η st = .ok (decide (w ≤ p.length)) st := by
  refine bV_at ?_
  rw [eB_at (len_p h.x g.p) (var_at h.e6 st)]
  show R.ok (PV.bl (decide ((w : Int) ≤ p.length))) st = _
  congr 2
  rw [decide_eq_decide]
  omega
theorem s20_at (g : Gx w ts p) (h : Lx w ts p v L η st) (hL : L = .non ∨ w = 2 ∧ L = rowsP 1 ts p) : S20_law η st = .nx η st := by
  have hl := g.len
  have hl2 := idx_length (rowB w p) ts 0
  unfold S20_law
  refine if_no ?_
  by_cases hw : w ≤ p.length
  · have e1 := (ge_at g h).trans (by rw [decide_eq_true hw])
    refine bAnd_t (s := st) e1 ?_
    rcases hL with rfl | ⟨rfl, rfl⟩
    · refine bAnd_f (bV_at ?_)
      rw [eB_at (var_at h.e5 st) (eC_at _)]
      rfl
    · refine bAnd_t (s := st) (bV_at ?_) (bAnd_t (s := st) e1 ?_)
      · rw [eB_at (var_at h.e5 st) (eC_at _)]
        rfl
      · refine any_no PV.int 15 (xs := rowsI 2 ts p) (iAny_at (var_at h.e10 st) rfl) ?_ fun j hj => ?_
        · show (idx (rowB 2 p) 0 ts).length ≤ 1000
          omega
        · rw [eB_at (var_at (h.x.at' (by decide) _) st) (var_at (get_ne h.e5 (by decide)) st)]
          have h2 := idx_sub (q2 := rowB 1 p) ts 0 j hj fun t ht f => wide_row g.p hw (g.ts t ht) f
          refine (in_ints true j (rowsI 1 ts p)).trans ?_
          have h3 : (rowsI 1 ts p).contains j = true := by
            rw [List.contains_iff_mem]
            exact h2
          rw [h3]
          rfl
  · exact bAnd_f ((ge_at g h).trans (by rw [decide_eq_false hw]))
theorem s22_at (g : Gx w ts p) (h : Lx w ts p v L η st) : ∃ η', S22_law η st = .nx η' st ∧ Lx w ts p v (lastP w ts p) η' st := by
  refine ⟨η.set 5 (some (lastP w ts p)), ?_, h.x.set (by decide) _, h.x.at' (by decide) _, get_ne h.e6 (by decide), get_ne h.e9 (by decide), get_ne h.e10 (by decide), get_ne h.e11 (by decide)⟩
  unfold S22_law
  refine sSet_at ?_
  refine (eIf_at (ge_at g h) (fun _ => var_at h.e10 st) (fun _ => eC_at _)).trans ?_
  unfold lastP
  simp only [decide_eq_true_iff]
end
end K44

set_option Elab.async false
set_option linter.all false
set_option maxRecDepth 1000000
/-! K44R: one width: each text. -/
namespace K44
open Pl
theorem cut1_all : ((T 9).all fun t => cut t (some 1) none == t.drop 1) = true := by decide +kernel
theorem cut1 {t : S} (h : IsT t) : cut t (some 1) none = t.drop 1 := eq_of_beq (List.all_eq_true.mp cut1_all t (T_mem h.1 h.2))
theorem lim_t {t : S} (h : IsT t) : t.length ≤ LIM := by
  have := h.1
  unfold LIM
  omega
theorem runs_self {w : Nat} (t : S) : ((words w).filter fun u => (runs w t).contains u) = runs w t := List.filter_congr fun u hu => by
  rw [Bool.eq_iff_iff, List.contains_iff_mem, mem_runs]
  exact ⟨fun h => h.2, fun h => ⟨hu, h⟩⟩
theorem strsP_map (f : Nat → Nat) : ∀ t : S, strsP (t.map fun x => .str [f x]) = some ((t.map f).map fun c => [c])
  | [] => rfl
  | x :: t => by
    have ih := strsP_map f t
    simp only [List.map_cons, strsP, ih]
section
variable {w : Nat} {ts : List S} {p : S} {v L : PV} {η : En} {st : Sto}
theorem tab_get (g : Gx w ts p) {r t : S} {k : Nat} (hr : r ∈ runs w t) (hk : ts[k]? = some t) : ∃ l : List Int, oIxD (.dct (tab w ts)) (.str r) st = .ok (.tup (l.map .int)) st ∧ l.contains (k : Int) = true := by
  obtain ⟨h1, h2⟩ := mem_runs.mp hr
  obtain ⟨k1, k2⟩ := (tab_f g.w ts).1 r h1
  obtain ⟨hl, ht⟩ := List.getElem?_eq_some_iff.mp hk
  have hm := mem_idx (findSub r) ts 0 k hl
  rw [Nat.zero_add, ht, h2] at hm
  refine ⟨idx (findSub r) 0 ts, ?_, hm⟩
  cases hd : dVal (tab w ts) (.str r) with
  | none =>
    rw [hd] at k2
    have k3 : PV.tup [] = .tup ((idx (findSub r) 0 ts).map .int) := k2
    injection k3 with k4
    have k5 : idx (findSub r) 0 ts = [] := by
      cases hx : idx (findSub r) 0 ts with
      | nil => rfl
      | cons a l =>
        rw [hx] at k4
        cases k4
    rw [k5] at hm
    cases hm
  | some u =>
    rw [hd] at k2
    have k3 : u = .tup ((idx (findSub r) 0 ts).map .int) := k2
    simp only [oIxD, dctOf, k1, if_true, hd, k3]
theorem s25_at (g : Gx w ts p) (h : Lx w ts p v L η st) {k : Nat} {t : S} (hk : ts[k]? = some t) (ht : IsT t) (e15 : η[15]? = some (some (.int k))) (e16 : η[16]? = some (some (.str t))) (e17 : η[17]? = some (some (.tup ((runs w t).map .str)))) : S25_law η st = .nx η st := by
  have hl := runs_len g.w t
  have hw2 : w ≤ 2 := by rcases g.w with e | e <;> omega
  unfold S25_law
  refine if_no (bOr_f (s := st) ?_ (bOr_f (s := st) (bV_at ?_) (bOr_f (s := st) (bV_at ?_) ?_)))
  · refine any_no PV.str 23 (xs := runs w t) (iAny_at (var_at e17 st) rfl) (by omega) fun r hr => ?_
    obtain ⟨l, e, hc⟩ := tab_get (st := st) g hr hk
    rw [eB_at (var_at (get_ne e15 (by decide)) st) ((eB_at (var_at (get_ne h.e9 (by decide)) st) (var_at (h.x.at' (by decide) _) st)).trans e)]
    refine (in_ints true (k : Int) l).trans ?_
    rw [hc]
    rfl
  · have e2 : eB oMul (eC (.int 2)) (eVar 6) η st = .ok (.int (2 * w)) st := by
      rw [eB_at (eC_at _) (var_at h.e6 st)]
      have hc : (decide ((2 : Int).natAbs < 2 ^ 64) || decide ((w : Int).natAbs < 2 ^ 64)) = true := by
        rw [Bool.or_eq_true]
        exact .inl (by decide)
      show (if (decide ((2 : Int).natAbs < 2 ^ 64) || decide ((w : Int).natAbs < 2 ^ 64)) = true then R.ok (PV.int (2 * w)) st else R.stuck) = _
      rw [if_pos hc]
    rw [eB_at ((eA1_at (var_at e17 st)).trans (len_tup _)) e2]
    show R.ok (PV.bl (decide ((2 * (w : Int)) < ((runs w t).map PV.str).length))) st = _
    rw [List.length_map, decide_eq_false (by omega)]
  · have e1 : eA (o1 gList) (aCons (eVar 17) aNil) η st = .ok (.lst ((runs w t).map .str)) st := (eA1_at (var_at e17 st)).trans rfl
    have hL : (runs w t).length ≤ LIM := by
      unfold LIM
      omega
    have e2 : eA (o1 gSorted) (aCons (eVar 17) aNil) η st = .ok (.lst ((runs w t).map .str)) st := by
      rw [eA1_at (var_at e17 st), sorted_ok hL rfl, sort_words g.w _ (runs_nd g.w t) (fun r hr => (mem_runs.mp hr).1), runs_self]
    rw [eB_at e1 e2]
    exact (ne_lstrs _ _).trans (by simp)
  · by_cases hw : t.length < w
    · refine bAnd_t (s := st) (bV_at ?_) (bV_at ?_)
      · have l9 := ht.1
        rw [eB_at ((eA1_at (var_at e16 st)).trans (len_str (by omega))) (var_at h.e6 st)]
        show R.ok (PV.bl (decide ((t.length : Int) < w))) st = _
        rw [decide_eq_true (by omega)]
      · rw [eB_at (var_at e17 st) ((eA_at aNil_at).trans (mkTup_at (Nat.zero_le _)))]
        rw [short_runs g.w ht hw]
        exact (ne_strs [] []).trans rfl
    · refine bAnd_f (bV_at ?_)
      have l9 := ht.1
      rw [eB_at ((eA1_at (var_at e16 st)).trans (len_str (by omega))) (var_at h.e6 st)]
      show R.ok (PV.bl (decide ((t.length : Int) < w))) st = _
      rw [decide_eq_false (by omega)]
theorem s27_at (g : Gx w ts p) (h : Lx w ts p v L η st) {t : S} (ht : IsT t) (e16 : η[16]? = some (some (.str t))) (e17 : η[17]? = some (some (.tup ((runs w t).map .str)))) : S27_law η st = .nx η st := by
  have hl := runs_len g.w (t.drop 1)
  have hw2 : w ≤ 2 := by rcases g.w with e | e <;> omega
  unfold S27_law
  have e1 : eSl (eVar 16) (pSome (eC (.int 1))) pNone η st = .ok (.str (t.drop 1)) st := by
    unfold eSl
    rw [var_at e16 st]
    show oSl (.str t) (some 1) none st = _
    unfold oSl
    show (if t.length ≤ LIM then _ else _) = _
    rw [if_pos (lim_t ht), cut1 ht]
  refine if_no (any_no PV.str 23 (xs := runs w (t.drop 1)) (iAny_at (runs_at g ht.drop e1 h.e6) rfl) (by omega) fun r hr => ?_)
  rw [eB_at (var_at (h.x.at' (by decide) _) st) (var_at (get_ne e17 (by decide)) st)]
  refine (in_strs true r (runs w t)).trans ?_
  have : (runs w t).contains r = true := by
    rw [List.contains_iff_mem]
    exact tail_runs g.w ht r hr
  rw [this]
  rfl
theorem s29_at (h : Lx w ts p v L η st) {t : S} (ht : IsT t) (e16 : η[16]? = some (some (.str t))) : S29_law η st = .nx (η.set 18 (some (.str (swap t)))) st := by
  unfold S29_law
  refine sSet_at ?_
  have hl := ht.1
  have e := lc_at (η := η) (st := st) (it := iAny (eVar 16)) (f := eIf (bV (eB oEq (eVar 24) (eC (.str [97])))) (eC (.str [98])) (eC (.str [97]))) (fun x : Nat => PV.str [x]) (fun x : Nat => PV.str [if x = 97 then 98 else 97]) 24 (xs := t) (iAny_at (var_at e16 st) rfl) (by omega) fun c hc => by
    have h1 : bV (eB oEq (eVar 24) (eC (.str [97]))) (η.set 24 (some (.str [c]))) st = .ok (decide (c = 97)) st := by
      refine bV_at ?_
      rw [eB_at (var_at (h.x.at' (by decide) _) st) (eC_at _)]
      refine (eq_str _ _).trans ?_
      congr 2
      rw [Bool.eq_iff_iff]
      simp
    refine (eIf_at h1 (fun _ => eC_at _) (fun _ => eC_at _)).trans ?_
    by_cases hc2 : c = 97
    · rw [decide_eq_true hc2, if_pos hc2]
      rfl
    · rw [decide_eq_false hc2, if_neg hc2]
      rfl
  show ((aCons _ aNil η st).bind fun as s => (m1 gJoin) (.str []) as s) = _
  rw [aCons_at e aNil_at]
  show gJoin (.str []) (.lst _) st = _
  refine gJoin_cs (strsP_map _ t) ?_ st
  exact lim_t ht.swap
theorem s30_at (g : Gx w ts p) (h : Lx w ts p v L η st) {t : S} (ht : IsT t) (e17 : η[17]? = some (some (.tup ((runs w t).map .str)))) (e18 : η[18]? = some (some (.str (swap t)))) : S30_law η st = .nx η st := by
  unfold S30_law
  refine if_no (bV_at ?_)
  rw [eB_at ((eA1_at (runs_at g ht.swap (var_at e18 st) h.e6)).trans (len_tup _)) ((eA1_at (var_at e17 st)).trans (len_tup _))]
  refine (ne_int _ _).trans ?_
  rw [List.length_map, List.length_map, swap_runs g.w ht]
  simp
theorem s23_loop (g : Gx w ts p) : ∀ (us : List S) (k : Nat) (η : En), Lx w ts p v L η st → (∀ (j : Nat) (t : S), us[j]? = some t → ts[k + j]? = some t) → ∃ η', forL (.tp [(.nm 15), (.nm 16)]) (sSeq S24_law (sSeq S25_law (sSeq S27_law (sSeq S29_law S30_law)))) (enumP k (us.map .str)) η st = .nx η' st ∧ Lx w ts p v L η' st
  | [], k, η, h, _ => ⟨η, rfl, h⟩
  | t :: us, k, η, h, hu => by
    have hk : ts[k]? = some t := hu 0 t rfl
    have hm : t ∈ ts := List.mem_of_getElem? hk
    have ht := g.ts t hm
    have h1 := h.set (i := 15) (by decide) (some (.int k))
    have a15 := h.x.at' (i := 15) (by decide) (.int k)
    have h2 := h1.set (i := 16) (by decide) (some (.str t))
    have b16 := h1.x.at' (i := 16) (by decide) (.str t)
    have b15 : ((η.set 15 (some (.int k))).set 16 (some (.str t)))[15]? = _ := get_ne a15 (by decide)
    show ∃ η', forL _ _ (.tup [.int k, .str t] :: enumP (k + 1) (us.map .str)) η st = _ ∧ _
    simp only [forL, Tg.bind, Tg.binds]
    generalize (η.set 15 (some (.int k))).set 16 (some (.str t)) = η2 at h2 b16 b15 ⊢
    have e24 : S24_law η2 st = .nx (η2.set 17 (some (.tup ((runs w t).map .str)))) st := by
      unfold S24_law
      exact sSet_at (runs_at g ht (var_at b16 st) h2.e6)
    have h3 := h2.set (i := 17) (by decide) (some (.tup ((runs w t).map .str)))
    have c17 := h2.x.at' (i := 17) (by decide) (.tup ((runs w t).map .str))
    have c16 : (η2.set 17 (some (.tup ((runs w t).map .str))))[16]? = _ := get_ne b16 (by decide)
    have c15 : (η2.set 17 (some (.tup ((runs w t).map .str))))[15]? = _ := get_ne b15 (by decide)
    rw [sSeq_at e24]
    generalize η2.set 17 (some (.tup ((runs w t).map .str))) = η3 at h3 c17 c16 c15 ⊢
    rw [sSeq_at (s25_at g h3 hk ht c15 c16 c17), sSeq_at (s27_at g h3 ht c16 c17), sSeq_at (s29_at h3 ht c16)]
    have h4 := h3.set (i := 18) (by decide) (some (.str (swap t)))
    rw [s30_at g h4 ht (get_ne c17 (by decide)) (h3.x.at' (by decide) _)]
    exact s23_loop g us (k + 1) _ h4 fun j u hj => by
      have := hu (j + 1) u (by simpa using hj)
      rw [Nat.add_assoc, Nat.add_comm 1 j]
      exact this
theorem s23_at (g : Gx w ts p) (h : Lx w ts p v L η st) : ∃ η', S23_law η st = .nx η' st ∧ Lx w ts p v L η' st := by
  obtain ⟨η', e, h'⟩ := s23_loop g ts 0 η h fun j t hj => by rw [Nat.zero_add]; exact hj
  refine ⟨η', ?_, h'⟩
  unfold S23_law
  rw [sFor_at (enum_it h.x)]
  exact e
end
end K44

set_option Elab.async false
set_option linter.all false
set_option maxRecDepth 1000000
/-! K44S: one width: two drawn texts. -/
namespace K44
open Pl
section
variable {w : Nat} {ts : List S} {p : S} {v L : PV} {η : En} {st : Sto}
theorem Lx.sto (h : Lx w ts p v L η st) {st' : Sto} (d : Draw.DrawAt 0 st') : Lx w ts p v L η st' :=
  ⟨⟨h.x.len, h.x.e1, h.x.e2, h.x.e3, h.x.e4, d⟩, h.e5, h.e6, h.e9, h.e10, h.e11⟩
theorem pick_text (g : Gx w ts p) (x : Wx ts p η st) : ∃ (t : S) (st' : Sto), t ∈ ts ∧ eA F__law_pick (aCons (eVar 1) (aCons (eA (o1 gList) (aCons (eVar 2) aNil)) aNil)) η st = .ok (.str t) st' ∧ Draw.DrawAt 0 st' := by
  obtain ⟨y, st', hy, e, d', _⟩ := Draw.pick_ok x.d (xs := ts.map .str) (fun z => g.ne (List.map_eq_nil_iff.mp z))
  obtain ⟨t, ht, rfl⟩ := List.mem_map.mp hy
  refine ⟨t, st', ht, ?_, d'⟩
  rw [eA_at (aCons_at (var_at x.e1 st) (a1_at ((eA1_at (o := gList) (var_at x.e2 st)).trans (rfl : _ = R.ok (PV.lst (ts.map PV.str)) st)))), pick_eq]
  exact e
abbrev aprt (a b : S) : PV := .tup [.str [97, 112, 97, 114, 116], .str a, .str b]
abbrev etaH (w : Nat) (p a b : S) (d : Option PV) : En := [some (.str [97, 98]), some (.int w), some (.str p), some (aprt a b), d, none, none, none]
theorem h1_at (g : Gx w ts p) (a b : S) : ∃ d, S1_run_exactly_holds (etaH w p a b none) [] = .nx (etaH w p a b (some d)) [] := by
  obtain ⟨d, _, ev⟩ := told_ok g.w g.p
  refine ⟨d, ?_⟩
  unfold S1_run_exactly_holds
  have e : eA (frm F_run_exactly) (aCons (eVar 0) (aCons (eVar 1) (aCons (eVar 2) aNil))) (etaH w p a b none) [] = .ok d [] := by
    rw [eA_at (aCons_at (var_at rfl []) (aCons_at (var_at rfl []) (aCons_at (var_at rfl []) aNil_at)))]
    exact ev []
  exact (sSet_at e).trans rfl
theorem h2_at (a b : S) (d : Option PV) : S2_run_exactly_holds (etaH w p a b d) [] = .nx (etaH w p a b d) [] := rfl
theorem h4_at (a b : S) (d : Option PV) : S4_run_exactly_holds (etaH w p a b d) [] = .nx (etaH w p a b d) [] := rfl
theorem sl_ab (a b : S) (d : Option PV) : iAny (eSl (eVar 3) (pSome (eC (.int 1))) pNone) (etaH w p a b d) [] = .ok ([a, b].map .str) [] := rfl
theorem h6_at {a b : S} (ha : IsT a) (hb : IsT b) (d : Option PV) : S6_run_exactly_holds (etaH w p a b d) [] = .nx (etaH w p a b d) [] := by
  unfold S6_run_exactly_holds
  refine if_no (bOr_f (s := []) (bV_at ?_) (bNot_at (a := true) (bV_at ?_)))
  · rw [eB_at (s := []) (s' := []) (v := .int 3) (u := .int 3) rfl rfl]
    exact ne_int 3 3
  · refine all_yes PV.str 5 (xs := [a, b]) (sl_ab a b d) (show 2 ≤ 1000 by decide) fun t ht => ?_
    have ht : IsT t := by
      rcases List.mem_cons.mp ht with rfl | ht
      · exact ha
      · rw [List.mem_singleton.mp ht]
        exact hb
    refine (eAnd_at (a := true) (b := true) (s := []) rfl fun _ => ?_).trans rfl
    have l9 := ht.1
    rw [eB_at (s := []) (s' := []) ((eA1_at (var_at rfl [])).trans (len_str (c := t) (by omega))) (eC_at _)]
    show R.ok (PV.bl (decide ((t.length : Int) ≤ 200))) [] = _
    rw [decide_eq_true (by omega)]
theorem chars_in {t : S} (ht : IsT t) (η1 : En) (h0 : η1[0]? = some (some (.str [97, 98]))) (h6 : 6 < η1.length) : lcL (.nm 6) bYes (eB (oInD false) (eVar 6) (eVar 0)) η1 (t.map fun x => .str [x]) [] = .ok (t.map fun _ => .bl true) [] := by
  refine lc_map (fun x : Nat => PV.str [x]) (fun _ => .bl true) 6 t fun c hc => ?_
  rw [eB_at (var_at (get_set h6) []) (var_at (get_ne h0 (by decide)) [])]
  refine (in_sub false [c] [97, 98]).trans ?_
  rcases ht.2 c hc with rfl | rfl <;> rfl
theorem boolsP_const {α : Type} : ∀ l : List α, boolsP (l.map fun _ => .bl true) = some (l.map fun _ => true)
  | [] => rfl
  | x :: l => by
    have ih := boolsP_const l
    simp only [List.map_cons, boolsP, ih]
theorem h8_at {a b : S} (ha : IsT a) (hb : IsT b) (d : Option PV) : S8_run_exactly_holds (etaH w p a b d) [] = .nx (etaH w p a b d) [] := by
  unfold S8_run_exactly_holds
  refine if_no (bNot_at (a := true) (bV_at ?_))
  have e1 := chars_in ha ((etaH w p a b d).set 5 (some (.str a))) rfl (by simp)
  have e2 := chars_in hb ((etaH w p a b d).set 5 (some (.str b))) rfl (by simp)
  have hx : lc2L (.nm 5) bYes (iAny (eVar 5)) [6] (.nm 6) bYes (eB (oInD false) (eVar 6) (eVar 0)) (etaH w p a b d) ([a, b].map .str) [] = .ok ((a ++ b).map fun _ => .bl true) [] := by
    show ((lcL (.nm 6) bYes (eB (oInD false) (eVar 6) (eVar 0)) ((etaH w p a b d).set 5 (some (.str a))) (a.map fun x => .str [x]) []).bind fun vs s => (((lcL (.nm 6) bYes (eB (oInD false) (eVar 6) (eVar 0)) ((etaH w p a b d).set 5 (some (.str b))) (b.map fun x => .str [x]) s).bind fun vs s => (R.ok [] s).bind fun ws s => .ok (vs ++ ws) s).bind fun ws s => .ok (vs ++ ws) s)) = _
    rw [e1]
    show (((lcL (.nm 6) bYes (eB (oInD false) (eVar 6) (eVar 0)) ((etaH w p a b d).set 5 (some (.str b))) (b.map fun x => .str [x]) []).bind fun vs s => (R.ok [] s).bind fun ws s => .ok (vs ++ ws) s).bind fun ws s => .ok (_ ++ ws) s) = _
    rw [e2]
    show R.ok _ [] = _
    rw [List.map_append, List.append_nil]
  have l1 := ha.1
  have l2 := hb.1
  have hl : ((a ++ b).map fun _ => PV.bl true).length ≤ LIM := by
    rw [List.length_map, List.length_append]
    unfold LIM
    omega
  have e3 : eLC2 (iAny (eSl (eVar 3) (pSome (eC (.int 1))) pNone)) [5, 6] (.nm 5) bYes (iAny (eVar 5)) [6] (.nm 6) bYes (eB (oInD false) (eVar 6) (eVar 0)) (etaH w p a b d) [] = .ok (.lst ((a ++ b).map fun _ => .bl true)) [] := by
    unfold eLC2
    rw [sl_ab]
    show (lc2L (.nm 5) bYes (iAny (eVar 5)) [6] (.nm 6) bYes (eB (oInD false) (eVar 6) (eVar 0)) (etaH w p a b d) ([a, b].map .str) []).bind mkLst = _
    rw [hx]
    exact mkLst_at hl
  rw [eA1_at e3]
  simp only [gBools, lstOf, seqOf, boolsP_const]
  congr 2
  generalize a ++ b = l
  induction l with
  | nil => rfl
  | cons x l ih => simp
theorem runs_h (g : Gx w ts p) {a : S} {f : EF} {η1 : En} (ha : IsT a) (h0 : η1[0]? = some (some (.str [97, 98]))) (h1 : η1[1]? = some (some (.int w))) (h : f η1 [] = .ok (.str a) []) : eA (frm F_runs_of) (aCons (eVar 0) (aCons f (aCons (eVar 1) aNil))) η1 [] = .ok (.tup ((runs w a).map .str)) [] := by
  rw [eA_at (aCons_at (var_at h0 []) (aCons_at h (aCons_at (var_at h1 []) aNil_at)))]
  exact (runsOk g.w).2.2 a ha []
theorem h10_at (g : Gx w ts p) {a b : S} (ha : IsT a) (hb : IsT b) (d : Option PV) : S10_run_exactly_holds (etaH w p a b d) [] = .rt (.bl ((runs w a == runs w b) && (!findSub p a && findSub p b))) [] := by
  unfold S10_run_exactly_holds
  have ea : eB oIxD (eVar 3) (eC (.int 1)) (etaH w p a b d) [] = .ok (.str a) [] := rfl
  have eb : eB oIxD (eVar 3) (eC (.int 2)) (etaH w p a b d) [] = .ok (.str b) [] := rfl
  refine sRet_at (eAnd_at (s := []) ?_ fun _ => eAnd_at (s := []) ?_ fun _ => ?_)
  · rw [eB_at (runs_h g ha rfl rfl ea) (runs_h g hb rfl rfl eb)]
    exact eq_strs _ _
  · rw [eB_at (var_at rfl []) ea]
    exact in_sub true p a
  · rw [eB_at (var_at rfl []) eb]
    exact in_sub false p b
theorem holds_ok (g : Gx w ts p) {a b : S} (ha : IsT a) (hb : IsT b) (st : Sto) : frm F_run_exactly_holds [.str [97, 98], .int w, .str p, aprt a b] st = .ok (.bl ((runs w a == runs w b) && (!findSub p a && findSub p b))) st := by
  obtain ⟨d, e1⟩ := h1_at g a b
  refine frm_ok (s := []) ?_ rfl rfl st
  show unS (B_run_exactly_holds (etaH w p a b none) []) = _
  unfold B_run_exactly_holds
  rw [sSeq_at e1, sSeq_at (h2_at a b _), sSeq_at (h4_at a b _), sSeq_at (h6_at ha hb _), sSeq_at (h8_at ha hb _), h10_at g ha hb]
  rfl
theorem s35_at (g : Gx w ts p) (h : Lx w ts p v L η st) {a b : S} (ha : IsT a) (hb : IsT b) (e19 : η[19]? = some (some (.bl (runs w a == runs w b)))) (e20 : η[20]? = some (some (.str a))) (e21 : η[21]? = some (some (.str b))) : S35_law η st = .nx η st := by
  unfold S35_law
  have e0 : eA mkTup (aCons (eC (.str [97, 112, 97, 114, 116])) (aCons (eVar 20) (aCons (eVar 21) aNil))) η st = .ok (aprt a b) st := by
    rw [eA_at (aCons_at (eC_at _) (aCons_at (var_at e20 st) (aCons_at (var_at e21 st) aNil_at)))]
    exact mkTup_at (show 3 ≤ LIM by
      unfold LIM
      decide)
  have e1 : eA (frm F_run_exactly_holds) (aCons (eC (.str [97, 98])) (aCons (eVar 6) (aCons (eVar 3) (aCons (eA mkTup (aCons (eC (.str [97, 112, 97, 114, 116])) (aCons (eVar 20) (aCons (eVar 21) aNil)))) aNil)))) η st = .ok (.bl ((runs w a == runs w b) && (!findSub p a && findSub p b))) st := by
    rw [eA_at (aCons_at (eC_at _) (aCons_at (var_at h.e6 st) (aCons_at (var_at h.x.e3 st) (a1_at e0))))]
    exact holds_ok g ha hb st
  have e2 : eAnd (eVar 19) (eAnd (eB (oInD true) (eVar 3) (eVar 20)) (eB (oInD false) (eVar 3) (eVar 21))) η st = .ok (.bl ((runs w a == runs w b) && (!findSub p a && findSub p b))) st := by
    refine eAnd_at (s := st) (var_at e19 st) fun _ => eAnd_at (s := st) ?_ fun _ => ?_
    · rw [eB_at (var_at h.x.e3 st) (var_at e20 st)]
      exact in_sub true p a
    · rw [eB_at (var_at h.x.e3 st) (var_at e21 st)]
      exact in_sub false p b
  refine if_no (bV_at ?_)
  rw [eB_at e1 e2]
  exact (ne_bl _ _).trans (by simp)
theorem s37_at (g : Gx w ts p) (h : Lx w ts p v L η st) (tv : Told w p v) {a b : S} (ha : IsT a) (hb : IsT b) (e19 : η[19]? = some (some (.bl (runs w a == runs w b)))) (e20 : η[20]? = some (some (.str a))) (e21 : η[21]? = some (some (.str b))) : S37_law η st = .nx η st := by
  unfold S37_law
  refine if_no ?_
  cases tv with
  | exact hp hd =>
    refine bAnd_t (s := st) (is_exact (b := true) h.e11 ((eq_str _ _).trans rfl)) ?_
    by_cases hs : (runs w a == runs w b) = true
    · have e1 : bV (eVar 19) η st = .ok true st := bV_at (by rw [var_at e19 st, hs])
      refine bAnd_t (s := st) e1 (bV_at ?_)
      have f1 : eB (oInD false) (eVar 3) (eVar 20) η st = .ok (.bl (findSub p a)) st := by
        rw [eB_at (var_at h.x.e3 st) (var_at e20 st)]
        exact in_sub false p a
      have f2 : eB (oInD false) (eVar 3) (eVar 21) η st = .ok (.bl (findSub p b)) st := by
        rw [eB_at (var_at h.x.e3 st) (var_at e21 st)]
        exact in_sub false p b
      rw [eB_at f1 f2]
      refine (ne_bl _ _).trans ?_
      have d1 := hd a ha
      have d2 := hd b hb
      rw [eq_of_beq hs] at d1
      rw [d1] at d2
      injection d2 with d3
      injection d3 with d4
      rw [d4]
      simp
    · have hs2 : (runs w a == runs w b) = false := by simpa using hs
      refine bAnd_f (bV_at ?_)
      rw [var_at e19 st, hs2]
  | apart x y h1 h2 => exact bAnd_f (is_exact (b := false) h.e11 ((eq_str _ _).trans rfl))
theorem s32_loop (g : Gx w ts p) (tv : Told w p v) : ∀ (xs : List PV) (η : En) (st : Sto), Lx w ts p v L η st → ∃ η' st', forL (.nm 12) (sSeq S33_law (sSeq S34_law (sSeq S35_law S37_law))) xs η st = .nx η' st' ∧ Lx w ts p v L η' st'
  | [], η, st, h => ⟨η, st, rfl, h⟩
  | x :: xs, η, st, h => by
    have h1 := h.set (i := 12) (by decide) (some x)
    simp only [forL, Tg.bind]
    generalize η.set 12 (some x) = η1 at h1 ⊢
    obtain ⟨a, st1, ma, ea, d1⟩ := pick_text g h1.x
    have h2 := h1.sto d1
    obtain ⟨b, st2, mb, eb, d2⟩ := pick_text g h2.x
    have h3 := h2.sto d2
    have ha := g.ts a ma
    have hb := g.ts b mb
    have e33 : S33_law η1 st = .nx ((η1.set 20 (some (.str a))).set 21 (some (.str b))) st2 := by
      unfold S33_law
      exact par_at ea eb
    rw [sSeq_at e33]
    have h4 := (h3.set (i := 20) (by decide) (some (.str a))).set (i := 21) (by decide) (some (.str b))
    have a21 := (h3.set (i := 20) (by decide) (some (.str a))).x.at' (i := 21) (by decide) (.str b)
    have a20 : ((η1.set 20 (some (.str a))).set 21 (some (.str b)))[20]? = _ := get_ne (h3.x.at' (by decide) (.str a)) (by decide)
    generalize (η1.set 20 (some (.str a))).set 21 (some (.str b)) = η2 at h4 a21 a20 ⊢
    have e34 : S34_law η2 st2 = .nx (η2.set 19 (some (.bl (runs w a == runs w b)))) st2 := by
      unfold S34_law
      refine sSet_at ?_
      rw [eB_at (runs_at g ha (var_at a20 st2) h4.e6) (runs_at g hb (var_at a21 st2) h4.e6)]
      exact eq_strs _ _
    rw [sSeq_at e34]
    have h5 := h4.set (i := 19) (by decide) (some (.bl (runs w a == runs w b)))
    have b19 := h4.x.at' (i := 19) (by decide) (.bl (runs w a == runs w b))
    have b20 : (η2.set 19 (some (.bl (runs w a == runs w b))))[20]? = _ := get_ne a20 (by decide)
    have b21 : (η2.set 19 (some (.bl (runs w a == runs w b))))[21]? = _ := get_ne a21 (by decide)
    generalize η2.set 19 (some (.bl (runs w a == runs w b))) = η3 at h5 b19 b20 b21 ⊢
    rw [sSeq_at (s35_at g h5 ha hb b19 b20 b21), s37_at g h5 tv ha hb b19 b20 b21]
    exact s32_loop g tv xs _ _ h5
theorem s32_at (g : Gx w ts p) (tv : Told w p v) (h : Lx w ts p v L η st) : ∃ η' st', S32_law η st = .nx η' st' ∧ Lx w ts p v L η' st' := by
  obtain ⟨η', st', e, h'⟩ := s32_loop g tv (rangeL 0 (Int.toNat 4)) η st h
  refine ⟨η', st', ?_, h'⟩
  unfold S32_law
  have hr : rgOk 4 = true := by
    rw [rgOk, Bool.and_eq_true, decide_eq_true_iff, decide_eq_true_iff]
    omega
  rw [sFor_at (iR1_at (a1_at (eC_at (.int 4))) hr)]
  exact e
end
end K44

set_option Elab.async false
set_option linter.all false
set_option maxRecDepth 1000000
/-! K44U: one width: its last rows; both widths. -/
namespace K44
open Pl
theorem runs_nil {w : Nat} (h : w = 1 ∨ w = 2) : runs w [] = [] := by rcases h with rfl | rfl <;> decide
theorem rows_all {w : Nat} (h : w = 1 ∨ w = 2) (f : S → List Int) (n : Nat) : rowsF w [] f n = (List.range' 0 n).map Int.ofNat := by
  unfold rowsF
  rw [runs_nil h]
  simp only [List.all_nil]
  rw [List.filter_eq_self.mpr fun _ _ => rfl]
theorem range_ints (n : Nat) : rangeL 0 n = ((List.range' 0 n).map Int.ofNat).map PV.int := by
  rw [rangeL, List.range_eq_range', List.map_map]
  refine List.map_congr_left fun i _ => ?_
  show PV.int (0 + (i : Int)) = PV.int (Int.ofNat i)
  rw [Int.zero_add]
  rfl
theorem sum_zero : ∀ W : List S, (W.map fun _ => (0 : Int)).sum = 0
  | [] => rfl
  | x :: W => by
    have ih := sum_zero W
    rw [List.map_cons, List.sum_cons, ih]
    rfl
theorem sum_split (f g : S → Int) : ∀ W : List S, (W.map fun r => f r + g r).sum = (W.map f).sum + (W.map g).sum
  | [] => rfl
  | x :: W => by
    have ih := sum_split f g W
    rw [List.map_cons, List.sum_cons, List.map_cons, List.sum_cons, List.map_cons, List.sum_cons, ih]
    omega
theorem sum_ind (q : S → Bool) : ∀ W : List S, (W.map fun r => if q r = true then (1 : Int) else 0).sum = ((W.filter q).length : Int)
  | [] => rfl
  | x :: W => by
    have ih := sum_ind q W
    rw [List.map_cons, List.sum_cons, ih, List.filter_cons]
    by_cases h : q x = true
    · rw [if_pos h, if_pos h, List.length_cons]
      omega
    · rw [if_neg h, if_neg h]
      omega
theorem idx_one (q : S → Bool) (i : Nat) (t : S) (ts : List S) : ((idx q i (t :: ts)).length : Int) = (if q t = true then 1 else 0) + ((idx q (i + 1) ts).length : Int) := by
  simp only [idx]
  by_cases h : q t = true
  · rw [if_pos h, if_pos h, List.length_cons]
    omega
  · rw [if_neg h, if_neg h]
    omega
theorem dbl (W : List S) : ∀ (ts : List S) (i : Nat), (W.map fun r => ((idx (findSub r) i ts).length : Int)).sum = (ts.map fun t => ((W.filter fun r => findSub r t).length : Int)).sum
  | [], i => sum_zero W
  | t :: ts, i => by
    have ih := dbl W ts (i + 1)
    have e : (W.map fun r => ((idx (findSub r) i (t :: ts)).length : Int)) = W.map fun r => (if findSub r t = true then 1 else 0) + ((idx (findSub r) (i + 1) ts).length : Int) := List.map_congr_left fun r _ => idx_one (findSub r) i t ts
    rw [e, sum_split, ih, sum_ind, List.map_cons, List.sum_cons]
theorem idx_none {q : S → Bool} : ∀ (ts : List S) (i : Nat), ts.any q = false → idx q i ts = []
  | [], _, _ => rfl
  | t :: ts, i, h => by
    simp only [List.any_cons, Bool.or_eq_false_iff] at h
    have ih := idx_none ts (i + 1) h.2
    simp only [idx, h.1, ih]
    rfl
theorem filt_sum (ts : List S) : ∀ W : List S, ((W.filter fun r => ts.any (findSub r)).map fun r => ((idx (findSub r) 0 ts).length : Int)).sum = (W.map fun r => ((idx (findSub r) 0 ts).length : Int)).sum
  | [] => rfl
  | x :: W => by
    have ih := filt_sum ts W
    rw [List.map_cons, List.sum_cons, List.filter_cons]
    by_cases h : ts.any (findSub x) = true
    · rw [if_pos h, List.map_cons, List.sum_cons, ih]
    · have h2 : ts.any (findSub x) = false := by simpa using h
      rw [if_neg h, ih, idx_none ts 0 h2]
      show _ = ((0 : Nat) : Int) + _
      omega
theorem intsP_map {α : Type} (f : α → Int) : ∀ l : List α, intsP (l.map fun x => .int (f x)) = some (l.map f)
  | [] => rfl
  | x :: l => by
    have ih := intsP_map f l
    simp only [List.map_cons, intsP, ih]
section
variable {w : Nat} {ts : List S} {p : S} {v L : PV} {η : En} {st : Sto}
theorem eTupR_at {f : EF} {j : Int} {s : Sto} (h : f η st = .ok (.int j) s) (hr : (rgOk j && decide (j ≤ 100000)) = true) : eTupR f η st = .ok (.tup (rangeL 0 j.toNat)) s := by
  unfold eTupR
  rw [h]
  simp only [R.bind, hr]
theorem tupR_at (g : Gx w ts p) (x : Wx ts p η st) : eTupR (eA (o1 gLenD) (aCons (eVar 2) aNil)) η st = .ok (.tup (((List.range' 0 ts.length).map Int.ofNat).map .int)) st := by
  have hl := g.len
  rw [eTupR_at (len_ts x) (by
    rw [rgOk, Bool.and_eq_true, Bool.and_eq_true, decide_eq_true_iff, decide_eq_true_iff, decide_eq_true_iff]
    omega), Int.toNat_natCast, range_ints]
theorem s39_at (g : Gx w ts p) (h : Lx w ts p v L η st) : S39_law η st = .nx η st := by
  unfold S39_law
  have hl := g.len
  refine if_no (bOr_f (s := st) (bV_at ?_) (bV_at ?_))
  · have e1 : eA (frm F_may_have) (aCons (eC (.str [97, 98])) (aCons (eVar 9) (aCons (eVar 6) (aCons (eA (o1 gLenD) (aCons (eVar 2) aNil)) (aCons (eC (.str [])) aNil))))) η st = .ok (.tup (((List.range' 0 ts.length).map Int.ofNat).map .int)) st := by
      rw [eA_at (aCons_at (eC_at _) (aCons_at (var_at h.e9 st) (aCons_at (var_at h.e6 st) (aCons_at (len_ts h.x) (aCons_at (eC_at _) aNil_at)))))]
      have e := may_ok (runsOk g.w) (tab_f g.w ts) (n := ts.length) (p := []) (by omega) ⟨Nat.zero_le _, fun c hc => by cases hc⟩ st
      rw [rows_all g.w] at e
      exact e
    rw [eB_at e1 (tupR_at g h.x)]
    exact (ne_ints _ _).trans (by simp)
  · have e1 : eA (frm F_may_have) (aCons (eC (.str [97, 98])) (aCons eD0 (aCons (eVar 6) (aCons (eA (o1 gLenD) (aCons (eVar 2) aNil)) (aCons (eVar 3) aNil))))) η st = .ok (.tup ((if decide (p.length < w) = true then (List.range' 0 ts.length).map Int.ofNat else []).map .int)) st := by
      rw [eA_at (aCons_at (eC_at _) (aCons_at (rfl : eD0 η st = .ok (.dct []) st) (aCons_at (var_at h.e6 st) (aCons_at (len_ts h.x) (aCons_at (var_at h.x.e3 st) aNil_at)))))]
      have e := may_ok (runsOk g.w) (empty_f w) (n := ts.length) (by omega) g.p.t st
      rw [rows_none, no_runs g.w g.p] at e
      exact e
    have e2 : bV (eB (oLt (fun i j => decide (i < j)) fun x y => decide (x < y)) (eA (o1 gLenD) (aCons (eVar 3) aNil)) (eVar 6)) η st = .ok (decide (p.length < w)) st := by
      refine bV_at ?_
      rw [eB_at (len_p h.x g.p) (var_at h.e6 st)]
      show R.ok (PV.bl (decide ((p.length : Int) < w))) st = _
      congr 2
      rw [decide_eq_decide]
      omega
    have e3 : eIf (bV (eB (oLt (fun i j => decide (i < j)) fun x y => decide (x < y)) (eA (o1 gLenD) (aCons (eVar 3) aNil)) (eVar 6))) (eTupR (eA (o1 gLenD) (aCons (eVar 2) aNil))) (eA mkTup aNil) η st = .ok (.tup ((if decide (p.length < w) = true then (List.range' 0 ts.length).map Int.ofNat else []).map .int)) st := by
      refine (eIf_at e2 (fun _ => tupR_at g h.x) (fun _ => (eA_at aNil_at).trans (mkTup_at (Nat.zero_le _)))).trans ?_
      by_cases hw : decide (p.length < w) = true
      · rw [if_pos hw, if_pos hw]
      · rw [if_neg hw, if_neg hw]
        rfl
    rw [eB_at e1 e3]
    exact (ne_ints _ _).trans (by simp)
theorem s41_at (g : Gx w ts p) (h : Lx w ts p v L η st) : S41_law η st = .nx η st := by
  unfold S41_law
  have hl := g.len
  have wl : (words w).length ≤ 4 := by
    rcases g.w with rfl | rfl <;> decide
  have fl := List.length_filter_le (fun r => ts.any (findSub r)) (words w)
  have i1 : iValsF (eVar 9) η st = .ok (((words w).filter fun r => ts.any (findSub r)).map fun r => .tup ((idx (findSub r) 0 ts).map .int)) st := by
    unfold iValsF
    rw [var_at h.e9 st]
    show R.ok ((tab w ts).map (·.2)) st = _
    rw [tab, List.map_map]
    rfl
  have e1 := lc_at (η := η) (st := st) (it := iValsF (eVar 9)) (f := eA (o1 gLenD) (aCons (eVar 25) aNil)) (fun r : S => .tup ((idx (findSub r) 0 ts).map .int)) (fun r : S => .int ((idx (findSub r) 0 ts).length : Int)) 25 i1 (by omega) fun r hr => by
    rw [eA1_at (var_at (h.x.at' (by decide) _) st), len_tup, List.length_map]
  have e2 := lc_at (η := η) (st := st) (it := iAny (eVar 2)) (f := eA (o1 gLenD) (aCons (eA (frm F_runs_of) (aCons (eC (.str [97, 98])) (aCons (eVar 16) (aCons (eVar 6) aNil)))) aNil)) PV.str (fun t : S => .int ((runs w t).length : Int)) 16 (xs := ts) (iAny_at (var_at h.x.e2 st) rfl) (by omega) fun t ht => by
    rw [eA1_at (runs_at g (g.ts t ht) (var_at (h.x.at' (by decide) _) st) (get_ne h.e6 (by decide))), len_tup, List.length_map]
  have s1 : eA (o1 gSum) (aCons (eLC (iValsF (eVar 9)) [25] (.nm 25) bYes (eA (o1 gLenD) (aCons (eVar 25) aNil))) aNil) η st = .ok (.int (ts.map fun t => ((runs w t).length : Int)).sum) st := by
    rw [eA1_at e1]
    simp only [gSum, lstOf, seqOf, intsP_map]
    rw [filt_sum, dbl]
    rfl
  have s2 : eA (o1 gSum) (aCons (eLC (iAny (eVar 2)) [16] (.nm 16) bYes (eA (o1 gLenD) (aCons (eA (frm F_runs_of) (aCons (eC (.str [97, 98])) (aCons (eVar 16) (aCons (eVar 6) aNil)))) aNil))) aNil) η st = .ok (.int (ts.map fun t => ((runs w t).length : Int)).sum) st := by
    rw [eA1_at e2]
    simp only [gSum, lstOf, seqOf, intsP_map]
  refine if_no (bV_at ?_)
  rw [eB_at s1 s2]
  exact (ne_int _ _).trans (by simp)
theorem width_at (g : Gx w ts p) (x : Wx ts p η st) (e5 : η[5]? = some (some L)) (e6 : η[6]? = some (some (.int w))) (hL : L = .non ∨ w = 2 ∧ L = rowsP 1 ts p) : ∃ η' st', (sSeq S7_law (sSeq S8_law (sSeq S9_law (sSeq S10_law (sSeq S12_law (sSeq S13_law (sSeq S20_law (sSeq S22_law (sSeq S23_law (sSeq S32_law (sSeq S39_law S41_law))))))))))) η st = .nx η' st' ∧ Wx ts p η' st' ∧ η'[5]? = some (some (lastP w ts p)) := by
  obtain ⟨η1, v, tv, h1, e1⟩ := head_at g x e5 e6 (sSeq S13_law (sSeq S20_law (sSeq S22_law (sSeq S23_law (sSeq S32_law (sSeq S39_law S41_law))))))
  rw [e1, sSeq_at (s13_at g h1 tv), sSeq_at (s20_at g h1 hL)]
  obtain ⟨η2, e2, h2⟩ := s22_at g h1
  rw [sSeq_at e2]
  obtain ⟨η3, e3, h3⟩ := s23_at g h2
  rw [sSeq_at e3]
  obtain ⟨η4, st4, e4, h4⟩ := s32_at g tv h3
  rw [sSeq_at e4, sSeq_at (s39_at g h4), s41_at g h4]
  exact ⟨η4, st4, rfl, h4.x, h4.e5⟩
theorem s6_at (g1 : Gx 1 ts p) (x : Wx ts p η st) (e5 : η[5]? = some (some .non)) : ∃ η' st', S6_law η st = .nx η' st' ∧ Wx ts p η' st' := by
  have g2 : Gx 2 ts p := ⟨g1.len, g1.ne, .inr rfl, g1.ts, g1.p⟩
  have ei : iR2 (aCons (eC (.int 1)) (aCons (eC (.int 3)) aNil)) η st = .ok [.int (1 : Nat), .int (2 : Nat)] st := rfl
  unfold S6_law
  rw [sFor_at ei]
  obtain ⟨η1, st1, e1, x1, a5⟩ := width_at g1 (x.set (i := 6) (by decide) (some (.int (1 : Nat)))) (get_ne e5 (by decide)) (x.at' (by decide) _) (.inl rfl)
  simp only [forL, Tg.bind, e1]
  obtain ⟨η2, st2, e2, x2, _⟩ := width_at g2 (x1.set (i := 6) (by decide) (some (.int (2 : Nat)))) (get_ne a5 (by decide)) (x1.at' (by decide) _) (by
    unfold lastP
    by_cases hp : 1 ≤ p.length
    · exact .inr ⟨rfl, by rw [if_pos hp]⟩
    · exact .inl (by rw [if_neg hp]))
  simp only [e2]
  exact ⟨η2, st2, rfl, x2⟩
end
end K44

set_option Elab.async false
set_option linter.all false
set_option maxRecDepth 1000000
/-! K44V: the law's last rows; the law. -/
namespace K44
open Pl
theorem idx_map (f : S → S) (q : S → Bool) : ∀ (ts : List S) (i : Nat), idx q i (ts.map f) = idx (fun t => q (f t)) i ts
  | [], _ => rfl
  | t :: ts, i => by
    simp only [List.map_cons, idx, idx_map f q ts (i + 1)]
theorem tk_all : ((T 3).all fun p => cut p none (some 1) == p.take 1 && (T 1).contains (p.take 1)) = true := by decide +kernel
theorem tk_at {p : S} (h : IsP p) : cut p none (some 1) = p.take 1 ∧ p.take 1 ∈ T 1 := by
  have e := List.all_eq_true.mp tk_all p (T_mem h.1 h.2)
  rw [Bool.and_eq_true, List.contains_iff_mem] at e
  exact ⟨eq_of_beq e.1, e.2⟩
theorem noLocC : ((T 1).all fun p => noLocD (tblC p)) = true := by decide +kernel
section
variable {ts : List S} {p : S} {η : En} {st : Sto}
theorem rev_at {f : EF} {t : S} (ht : t.length ≤ 1000) (h : f η st = .ok (.str t) st) : eU oRev f η st = .ok (.str t.reverse) st := by
  unfold eU
  rw [h]
  show (match decide (t.length ≤ LIM) with
    | true => _
    | false => _) = _
  rw [decide_eq_true (show t.length ≤ LIM by
    unfold LIM
    omega)]
theorem s43_at (g : Gx 2 ts p) (x : Wx ts p η st) : S43_law η st = .nx (η.set 7 (some (.tup ((ts.map List.reverse).map .str)))) st := by
  unfold S43_law
  have hl := g.len
  refine sSet_at ?_
  have e := lc_at (η := η) (st := st) (it := iAny (eVar 2)) (f := eU oRev (eVar 16)) PV.str (fun t : S => .str t.reverse) 16 (xs := ts) (iAny_at (var_at x.e2 st) rfl) (by omega) fun t ht => by
    have := (g.ts t ht).1
    exact rev_at (by omega) (var_at (x.at' (by decide) _) st)
  rw [eA1_at e, List.map_map]
  rfl
theorem ne_pair (a : List Int) (m : Int) : oNe (.tup [.tup (a.map .int), .int m]) (.tup [.tup (a.map .int), .int m]) st = .ok (.bl false) st := by
  simp [oNe, deref, PV.pl, PV.pls, pls_int, PV.eqv, PV.eqvs, eqvs_int]
theorem s44_at (g : Gx 2 ts p) (x : Wx ts p η st) (e7 : η[7]? = some (some (.tup ((ts.map List.reverse).map .str)))) : S44_law η st = .nx η st := by
  unfold S44_law
  have hp := g.p.1
  have hl := g.len
  have ht : ∀ t ∈ ts.map List.reverse, IsT t := fun t m => by
    obtain ⟨u, hu, rfl⟩ := List.mem_map.mp m
    exact (g.ts u hu).rev
  refine if_no (bOr_f (s := st) (bV_at ?_) (bV_at ?_))
  · have e1 := (eA_at (o := frm F_search) (aCons_at (eC_at (η := η) (st := st) (.str [97, 98])) (aCons_at (var_at e7 st) (aCons_at (eC_at (.int 2)) (aCons_at (rev_at (by omega) (var_at x.e3 st)) aNil_at))))).trans (search_ok (w := 2) (runsOk (.inr rfl)) ht (by rw [List.length_map]; exact hl) g.p.rev.t st)
    rw [eB_at ((eB_at e1 (eC_at _)).trans ix0) (var_at x.e4 st)]
    refine (ne_ints _ _).trans ?_
    have e2 : idx (fun t => ((runs 2 p.reverse).all fun r => findSub r t) && findSub p.reverse t) 0 (ts.map List.reverse) = idx (findSub p) 0 ts := by
      rw [idx_map]
      refine idx_congr ts 0 fun t ht => ?_
      have hr := rev_sub g.p (g.ts t ht)
      by_cases f : findSub p t = true
      · have f2 : findSub p.reverse t.reverse = true := hr.trans f
        have := due_row (.inr rfl) g.p.rev (g.ts t ht).rev f2
        unfold rowB at this
        rw [f2, this, f]
        rfl
      · have f1 : findSub p t = false := by simpa using f
        rw [hr, f1, Bool.and_false]
    rw [e2]
    simp
  · have e1 := (eA_at (o := frm F_search) (aCons_at (eC_at (η := η) (st := st) (.str [98, 97])) (aCons_at (var_at x.e2 st) (aCons_at (eC_at (.int 2)) (aCons_at (var_at x.e3 st) aNil_at))))).trans (search_ok (w := 2) runsOkB g.ts hl g.p.t st)
    have e2 := (eA_at (o := frm F_search) (aCons_at (eC_at (η := η) (st := st) (.str [97, 98])) (aCons_at (var_at x.e2 st) (aCons_at (eC_at (.int 2)) (aCons_at (var_at x.e3 st) aNil_at))))).trans (search_ok (w := 2) (runsOk (.inr rfl)) g.ts hl g.p.t st)
    rw [eB_at e1 e2]
    exact ne_pair _ _
theorem sl1_at (x : Wx ts p η st) (hp : IsP p) : eSl (eVar 3) pNone (pSome (eC (.int 1))) η st = .ok (.str (p.take 1)) st := by
  have l3 := hp.1
  have hl : p.length ≤ LIM := by
    unfold LIM
    omega
  unfold eSl
  rw [var_at x.e3 st]
  show oSl (.str p) none (some 1) st = _
  unfold oSl
  show (if p.length ≤ LIM then _ else _) = _
  rw [if_pos hl, (tk_at hp).1]
theorem s46_at (g : Gx 2 ts p) (x : Wx ts p η st) : S46_law η st = .nx (η.set 8 (some (.tup [K44.exact, .dct (tblC (p.take 1))]))) st := by
  unfold S46_law
  refine sSet_at ?_
  rw [eA_at (aCons_at (eC_at _) (aCons_at (eC_at _) (aCons_at (sl1_at x g.p) aNil_at)))]
  obtain ⟨_, hm⟩ := tk_at g.p
  refine frm_is (List.all_eq_true.mp tolds_abc _ hm) rfl ?_ st
  have hn := List.all_eq_true.mp noLocC _ hm
  show (noLoc K44.exact && (noLocD (tblC (p.take 1)) && true)) = true
  rw [hn]
  rfl
theorem lc_map2 {α : Type} (a b g : α → PV) (i j : Nat) {f : EF} : ∀ xs : List α, (∀ x ∈ xs, f ((η.set i (some (a x))).set j (some (b x))) st = .ok (g x) st) → lcL (.tp [.nm i, .nm j]) bYes f η (xs.map fun x => .tup [a x, b x]) st = .ok (xs.map g) st
  | [], _ => rfl
  | x :: xs, h => by
    have ih := lc_map2 a b g i j xs fun y hy => h y (by simp [hy])
    simp only [List.map_cons, lcL, Tg.bind, Tg.binds, bYes, R.bind, h x (by simp), ih]
theorem s47_at (g : Gx 2 ts p) (x : Wx ts p η st) (e8 : η[8]? = some (some (.tup [K44.exact, .dct (tblC (p.take 1))]))) : S47_law η st = .rt (.bl true) st := by
  unfold S47_law
  have hx : (lex [[97], [98], [99]]).length = 8 := by decide
  have ed : eB oIxD (eVar 8) (eC (.int 1)) η st = .ok (.dct (tblC (p.take 1))) st := (eB_at (var_at e8 st) (eC_at _)).trans ix1
  have hw1 : Wx ts p (wipeE η [26, 27]) st := x.wipe [26, 27] (by decide)
  have e1 := lc_map2 (η := wipeE η [26, 27]) (st := st) (f := eB oEq (eVar 27) (eOr (eB oEq (eSl (eVar 3) pNone (pSome (eC (.int 1)))) (eC (.str []))) (eB (oInD false) (eSl (eVar 3) pNone (pSome (eC (.int 1)))) (eVar 26)))) (fun k : List S => PV.tup (k.map .str)) (fun k : List S => PV.bl (p.take 1 == [] || k.contains (p.take 1))) (fun _ => .bl true) 26 27 (lex [[97], [98], [99]]) fun k hk => by
    have hw2 := (hw1.set (i := 26) (by decide) (some (.tup (k.map .str)))).set (i := 27) (by decide) (some (.bl (p.take 1 == [] || k.contains (p.take 1))))
    have a27 := (hw1.set (i := 26) (by decide) (some (.tup (k.map .str)))).at' (i := 27) (by decide) (.bl (p.take 1 == [] || k.contains (p.take 1)))
    have a26 := get_ne (i := 27) (w := some (.bl (p.take 1 == [] || k.contains (p.take 1)))) (hw1.at' (i := 26) (by decide) (.tup (k.map .str))) (by decide)
    rw [eB_at (var_at a27 st) (eOr_at (s := st) ((eB_at (sl1_at hw2 g.p) (eC_at _)).trans (eq_str _ _)) fun _ => (eB_at (sl1_at hw2 g.p) (var_at a26 st)).trans (in_strs false _ k))]
    refine (eq_bl _ _).trans ?_
    simp
  have it : iItemsF (eB oIxD (eVar 8) (eC (.int 1))) η st = .ok ((lex [[97], [98], [99]]).map fun k => .tup [.tup (k.map .str), .bl (p.take 1 == [] || k.contains (p.take 1))]) st := by
    unfold iItemsF
    rw [ed]
    show R.ok ((tblC (p.take 1)).map fun q => PV.tup [q.1, q.2]) st = _
    rw [tblC, List.map_map]
    rfl
  have e2 := eLC_at (own := [26, 27]) it e1 (by
    rw [List.length_map, hx]
    unfold LIM
    omega)
  have e3 : eA (o1 (gBools fun bs => bs.all id)) (aCons (eLC (iItemsF (eB oIxD (eVar 8) (eC (.int 1)))) [26, 27] (.tp [(.nm 26), (.nm 27)]) bYes (eB oEq (eVar 27) (eOr (eB oEq (eSl (eVar 3) pNone (pSome (eC (.int 1)))) (eC (.str []))) (eB (oInD false) (eSl (eVar 3) pNone (pSome (eC (.int 1)))) (eVar 26))))) aNil) η st = .ok (.bl true) st := by
    rw [eA1_at e2]
    simp only [gBools, lstOf, seqOf, boolsP_const]
    rfl
  refine sRet_at ((eAnd_at (a := true) (b := true) (s := st) ?_ fun _ => (eAnd_at (a := true) (b := true) (s := st) e3 fun _ => ?_)).trans rfl)
  · rw [eB_at ((eB_at (var_at e8 st) (eC_at _)).trans ix0) (eC_at _)]
    exact (eq_str _ _).trans rfl
  · rw [eB_at ((eA1_at ed).trans (len_dct _)) (eC_at _)]
    refine (eq_int _ _).trans ?_
    rw [tblC, List.length_map, hx]
    rfl
theorem s4_at (hn : η.length = 28) (e2 : η[2]? = some (some (.tup (ts.map .str)))) (e3 : η[3]? = some (some (.str p))) (hl : ts.length ≤ 7) : S4_law η st = .nx (η.set 4 (some (due ts p))) st := by
  unfold S4_law
  refine sSet_at ?_
  have b2 : (wipeE η [15, 16])[3]? = some (some (.str p)) := wipe_ne e3 [15, 16] (by decide)
  have bl : (wipeE η [15, 16]).length = 28 := by rw [wipe_len, hn]
  have e := enum_lc (η := wipeE η [15, 16]) (st := st) (c := bV (eB (oInD false) (eVar 3) (eVar 16))) (findSub p) 15 16 (by decide) (by rw [bl]; decide) ts 0 fun t ht n => by
    refine bV_at ?_
    rw [eB_at (var_at (get_ne (get_ne b2 (by decide)) (by decide)) st) (var_at (get_set (by rw [List.length_set, bl]; decide)) st)]
    exact in_sub false p t
  have hl2 := idx_length (findSub p) ts 0
  have it : iEnumF (aCons (eVar 2) aNil) η st = .ok (enumP 0 (ts.map .str)) st := by
    unfold iEnumF
    rw [a1_at (var_at e2 st)]
    rfl
  have e4 := eLC_at (own := [15, 16]) it e (by
    rw [List.length_map]
    unfold LIM
    omega)
  exact (eA1_at e4).trans rfl
end
theorem main_true : TrueOn 63 F_law := by
  intro ns _
  show ∃ s, unS (B_law (eta0 ns) []) = _
  unfold B_law
  obtain ⟨st1, e1, d1⟩ := s1_at ns
  rw [sSeq_at e1]
  have n0 : (eta0 ns).length = 28 := rfl
  have n1 : ((eta0 ns).set 1 (some (.loc 0))).length = 28 := by rw [List.length_set]; exact n0
  have a1 : ((eta0 ns).set 1 (some (.loc 0)))[1]? = some (some (.loc 0)) := get_set (by rw [n0]; decide)
  generalize (eta0 ns).set 1 (some (.loc 0)) = η1 at n1 a1 ⊢
  obtain ⟨ts, st2, e2, hl, hp, hts, d2⟩ := texts_at a1 d1
  rw [sSeq_at e2]
  have n2 : (η1.set 2 (some (.tup (ts.map .str)))).length = 28 := by rw [List.length_set]; exact n1
  have b1 : (η1.set 2 (some (.tup (ts.map .str))))[1]? = _ := get_ne a1 (by decide)
  have b2 : (η1.set 2 (some (.tup (ts.map .str))))[2]? = _ := get_set (by rw [n1]; decide)
  generalize η1.set 2 (some (.tup (ts.map .str))) = η2 at n2 b1 b2 ⊢
  obtain ⟨p, st3, e3, pl, pa, d3⟩ := part_at b1 d2
  rw [sSeq_at e3]
  have n3 : (η2.set 3 (some (.str p))).length = 28 := by rw [List.length_set]; exact n2
  have c1 : (η2.set 3 (some (.str p)))[1]? = _ := get_ne b1 (by decide)
  have c2 : (η2.set 3 (some (.str p)))[2]? = _ := get_ne b2 (by decide)
  have c3 : (η2.set 3 (some (.str p)))[3]? = _ := get_set (by rw [n2]; decide)
  generalize η2.set 3 (some (.str p)) = η3 at n3 c1 c2 c3 ⊢
  rw [sSeq_at (s4_at n3 c2 c3 hl)]
  have x4 : Wx ts p (η3.set 4 (some (due ts p))) st3 := ⟨by rw [List.length_set]; exact n3, get_ne c1 (by decide), get_ne c2 (by decide), get_ne c3 (by decide), get_set (by rw [n3]; decide), d3⟩
  generalize η3.set 4 (some (due ts p)) = η4 at x4 ⊢
  have e5 : S5_law η4 st3 = .nx (η4.set 5 (some .non)) st3 := by
    unfold S5_law
    exact sSet_at (eC_at _)
  rw [sSeq_at e5]
  have x5 := x4.set (i := 5) (by decide) (some .non)
  have d5 := x4.at' (i := 5) (by decide) .non
  have g1 : Gx 1 ts p := ⟨hl, fun z => by rw [z] at hp; exact absurd hp (by decide), .inl rfl, hts, pl, pa⟩
  have g2 : Gx 2 ts p := ⟨g1.len, g1.ne, .inr rfl, g1.ts, g1.p⟩
  obtain ⟨η6, st6, e6, x6⟩ := s6_at g1 x5 d5
  rw [sSeq_at e6, sSeq_at (s43_at g2 x6)]
  have x7 := x6.set (i := 7) (by decide) (some (.tup ((ts.map List.reverse).map .str)))
  have a7 := x6.at' (i := 7) (by decide) (.tup ((ts.map List.reverse).map .str))
  rw [sSeq_at (s44_at g2 x7 a7), sSeq_at (s46_at g2 x7)]
  rw [s47_at g2 (x7.set (i := 8) (by decide) (some (.tup [K44.exact, .dct (tblC (p.take 1))]))) (x7.at' (i := 8) (by decide) _)]
  exact ⟨st6, rfl⟩
end K44

set_option Elab.async false
set_option linter.all false
set_option maxRecDepth 100000
set_option maxHeartbeats 4000000
/-! law_k44_whole_runs_tie: the derivations. -/
namespace K44
open PySem PySem.Spec PyProof.Rows L2 Pl

def topS (i : Nat) : Stmt := PySem.Challenge.pw_manypasts_k44_whole_runs_tie.main.body.getD i (.Pass ⟨0, 0, 0, 0⟩)
def clsB : Stmt → List Stmt
  | .ClassDef (body := b) .. => b
  | _ => []
abbrev s__law_cell_at : Stmt := topS 21
abbrev N__law_cell_at : List Str := ["script", "k"]
theorem sc__law_cell_at : FnScope N__law_cell_at ["script", "k"] (defScope s__law_cell_at) := ⟨rfl, rfl, rfl, by decide +kernel, rfl, by decide +kernel, by decide +kernel⟩
abbrev s__law_draw : Stmt := topS 22
abbrev N__law_draw : List Str := ["cell", "k", "bound", "primes"]
theorem sc__law_draw : FnScope N__law_draw ["cell", "k", "bound"] (defScope s__law_draw) := ⟨rfl, rfl, rfl, by decide +kernel, rfl, by decide +kernel, by decide +kernel⟩
abbrev s__law_number : Stmt := topS 23
abbrev N__law_number : List Str := ["cell", "k", "bound", "scale", "lap", "remains", "small"]
theorem sc__law_number : FnScope N__law_number ["cell", "k", "bound"] (defScope s__law_number) := ⟨rfl, rfl, rfl, by decide +kernel, rfl, by decide +kernel, by decide +kernel⟩
abbrev s__law_next : Stmt := topS 24
abbrev N__law_next : List Str := ["draw", "bound", "at", "cell"]
theorem sc__law_next : FnScope N__law_next ["draw", "bound"] (defScope s__law_next) := ⟨rfl, rfl, rfl, by decide +kernel, rfl, by decide +kernel, by decide +kernel⟩
abbrev s__law_pick : Stmt := topS 25
abbrev N__law_pick : List Str := ["draw", "things"]
theorem sc__law_pick : FnScope N__law_pick ["draw", "things"] (defScope s__law_pick) := ⟨rfl, rfl, rfl, by decide +kernel, rfl, by decide +kernel, by decide +kernel⟩
abbrev s_check_signs : Stmt := topS 10
abbrev N_check_signs : List Str := ["signs", "sign"]
theorem sc_check_signs : FnScope N_check_signs ["signs"] (defScope s_check_signs) := ⟨rfl, rfl, rfl, by decide +kernel, rfl, by decide +kernel, by decide +kernel⟩
abbrev s_check_run : Stmt := topS 11
abbrev N_check_run : List Str := ["signs", "text", "sign"]
theorem sc_check_run : FnScope N_check_run ["signs", "text"] (defScope s_check_run) := ⟨rfl, rfl, rfl, by decide +kernel, rfl, by decide +kernel, by decide +kernel⟩
abbrev s_is_whole : Stmt := topS 6
abbrev N_is_whole : List Str := ["thing"]
theorem sc_is_whole : FnScope N_is_whole ["thing"] (defScope s_is_whole) := ⟨rfl, rfl, rfl, by decide +kernel, rfl, by decide +kernel, by decide +kernel⟩
abbrev s_is_from : Stmt := topS 7
abbrev N_is_from : List Str := ["thing", "least", "most"]
theorem sc_is_from : FnScope N_is_from ["thing", "least", "most"] (defScope s_is_from) := ⟨rfl, rfl, rfl, by decide +kernel, rfl, by decide +kernel, by decide +kernel⟩
abbrev s_check_width : Stmt := topS 12
abbrev N_check_width : List Str := ["width"]
theorem sc_check_width : FnScope N_check_width ["width"] (defScope s_check_width) := ⟨rfl, rfl, rfl, by decide +kernel, rfl, by decide +kernel, by decide +kernel⟩
abbrev s_runs_of : Stmt := topS 13
abbrev N_runs_of : List Str := ["signs", "text", "width", "at"]
theorem sc_runs_of : FnScope N_runs_of ["signs", "text", "width"] (defScope s_runs_of) := ⟨rfl, rfl, rfl, by decide +kernel, rfl, by decide +kernel, by decide +kernel⟩
abbrev s_run_postings : Stmt := topS 14
abbrev N_run_postings : List Str := ["signs", "texts", "width", "text", "found", "number", "run"]
theorem sc_run_postings : FnScope N_run_postings ["signs", "texts", "width"] (defScope s_run_postings) := ⟨rfl, rfl, rfl, by decide +kernel, rfl, by decide +kernel, by decide +kernel⟩
abbrev s_may_have : Stmt := topS 15
abbrev N_may_have : List Str := ["signs", "table", "width", "many", "part", "runs", "number", "run"]
theorem sc_may_have : FnScope N_may_have ["signs", "table", "width", "many", "part"] (defScope s_may_have) := ⟨rfl, rfl, rfl, by decide +kernel, rfl, by decide +kernel, by decide +kernel⟩
abbrev s_search : Stmt := topS 16
abbrev N_search : List Str := ["signs", "texts", "width", "part", "table", "rows", "number"]
theorem sc_search : FnScope N_search ["signs", "texts", "width", "part"] (defScope s_search) := ⟨rfl, rfl, rfl, by decide +kernel, rfl, by decide +kernel, by decide +kernel⟩
abbrev s_Walks_kind : Stmt := (clsB (topS 17)).getD 1 (.Pass ⟨0, 0, 0, 0⟩)
abbrev N_Walks_kind : List Str := ["self", "runs", "tail", "seen", "is_in", "keep"]
theorem sc_Walks_kind : FnScope N_Walks_kind ["self", "runs", "tail", "seen", "is_in"] (defScope s_Walks_kind) := ⟨rfl, rfl, rfl, by decide +kernel, rfl, by decide +kernel, by decide +kernel⟩
abbrev s_WalksU_initU : Stmt := (clsB (topS 17)).getD 0 (.Pass ⟨0, 0, 0, 0⟩)
abbrev N_WalksU_initU : List Str := ["self", "signs", "width", "part", "first"]
theorem sc_WalksU_initU : FnScope N_WalksU_initU ["self", "signs", "width", "part"] (defScope s_WalksU_initU) := ⟨rfl, rfl, rfl, by decide +kernel, rfl, by decide +kernel, by decide +kernel⟩
abbrev s_Walks_step : Stmt := (clsB (topS 17)).getD 2 (.Pass ⟨0, 0, 0, 0⟩)
abbrev N_Walks_step : List Str := ["self", "kind", "sign", "runs", "tail", "seen", "is_in", "whole", "late", "run"]
theorem sc_Walks_step : FnScope N_Walks_step ["self", "kind", "sign"] (defScope s_Walks_step) := ⟨rfl, rfl, rfl, by decide +kernel, rfl, by decide +kernel, by decide +kernel⟩
abbrev s_Walks_grow : Stmt := (clsB (topS 17)).getD 3 (.Pass ⟨0, 0, 0, 0⟩)
abbrev N_Walks_grow : List Str := ["self", "at", "here", "sign", "late"]
theorem sc_Walks_grow : FnScope N_Walks_grow ["self"] (defScope s_Walks_grow) := ⟨rfl, rfl, rfl, by decide +kernel, rfl, by decide +kernel, by decide +kernel⟩
abbrev s_run_exactly : Stmt := topS 18
abbrev N_run_exactly : List Str := ["signs", "width", "part", "walks", "rows", "kind", "runs"]
theorem sc_run_exactly : FnScope N_run_exactly ["signs", "width", "part"] (defScope s_run_exactly) := ⟨rfl, rfl, rfl, by decide +kernel, rfl, by decide +kernel, by decide +kernel⟩
abbrev s_run_exactly_holds : Stmt := topS 19
abbrev N_run_exactly_holds : List Str := ["signs", "width", "part", "told", "due", "text", "sign", "one"]
theorem sc_run_exactly_holds : FnScope N_run_exactly_holds ["signs", "width", "part", "told"] (defScope s_run_exactly_holds) := ⟨rfl, rfl, rfl, by decide +kernel, rfl, by decide +kernel, by decide +kernel⟩
abbrev s_law : Stmt := topS 26
abbrev N_law : List Str := ["script", "draw", "texts", "part", "due", "last", "width", "turned", "wide", "table", "rows", "told", "turn", "numbers", "looked", "number", "text", "runs", "swap", "same", "one", "other", "step", "run", "sign", "row", "key", "answer"]
theorem sc_law : FnScope N_law ["script"] (defScope s_law) := ⟨rfl, rfl, rfl, by decide +kernel, rfl, by decide +kernel, by decide +kernel⟩
/-- what the top has written -/
structure Tx (K : PySem.W.Frag) (mg : Str → Option Value) where
  a : Nat → Addr
  d : Nat → FuncData
  cls : Nat → Addr
  f__law_cell_at : Fun K "_law_cell_at" "_law_cell_at" s__law_cell_at (a 0) (d 0)
  b__law_cell_at : Binds K (d 0) ["script", "k"] []
  m__law_cell_at : mg "_law_cell_at" = some (.ref (a 0))
  f__law_draw : Fun K "_law_draw" "_law_draw" s__law_draw (a 1) (d 1)
  b__law_draw : Binds K (d 1) ["cell", "k", "bound"] []
  m__law_draw : mg "_law_draw" = some (.ref (a 1))
  f__law_number : Fun K "_law_number" "_law_number" s__law_number (a 2) (d 2)
  b__law_number : Binds K (d 2) ["cell", "k", "bound"] []
  m__law_number : mg "_law_number" = some (.ref (a 2))
  f__law_next : Fun K "_law_next" "_law_next" s__law_next (a 3) (d 3)
  b__law_next : Binds K (d 3) ["draw", "bound"] []
  m__law_next : mg "_law_next" = some (.ref (a 3))
  f__law_pick : Fun K "_law_pick" "_law_pick" s__law_pick (a 4) (d 4)
  b__law_pick : Binds K (d 4) ["draw", "things"] []
  m__law_pick : mg "_law_pick" = some (.ref (a 4))
  f_check_signs : Fun K "check_signs" "check_signs" s_check_signs (a 5) (d 5)
  b_check_signs : Binds K (d 5) ["signs"] []
  m_check_signs : mg "check_signs" = some (.ref (a 5))
  f_check_run : Fun K "check_run" "check_run" s_check_run (a 6) (d 6)
  b_check_run : Binds K (d 6) ["signs", "text"] []
  m_check_run : mg "check_run" = some (.ref (a 6))
  f_is_whole : Fun K "is_whole" "is_whole" s_is_whole (a 7) (d 7)
  b_is_whole : Binds K (d 7) ["thing"] []
  m_is_whole : mg "is_whole" = some (.ref (a 7))
  f_is_from : Fun K "is_from" "is_from" s_is_from (a 8) (d 8)
  b_is_from : Binds K (d 8) ["thing", "least", "most"] []
  m_is_from : mg "is_from" = some (.ref (a 8))
  f_check_width : Fun K "check_width" "check_width" s_check_width (a 9) (d 9)
  b_check_width : Binds K (d 9) ["width"] []
  m_check_width : mg "check_width" = some (.ref (a 9))
  f_runs_of : Fun K "runs_of" "runs_of" s_runs_of (a 10) (d 10)
  b_runs_of : Binds K (d 10) ["signs", "text", "width"] []
  m_runs_of : mg "runs_of" = some (.ref (a 10))
  f_run_postings : Fun K "run_postings" "run_postings" s_run_postings (a 11) (d 11)
  b_run_postings : Binds K (d 11) ["signs", "texts", "width"] []
  m_run_postings : mg "run_postings" = some (.ref (a 11))
  f_may_have : Fun K "may_have" "may_have" s_may_have (a 12) (d 12)
  b_may_have : Binds K (d 12) ["signs", "table", "width", "many", "part"] []
  m_may_have : mg "may_have" = some (.ref (a 12))
  f_search : Fun K "search" "search" s_search (a 13) (d 13)
  b_search : Binds K (d 13) ["signs", "texts", "width", "part"] []
  m_search : mg "search" = some (.ref (a 13))
  f_Walks_kind : Fun K "kind" "Walks.kind" s_Walks_kind (a 14) (d 14)
  b_Walks_kind : Binds K (d 14) ["self", "runs", "tail", "seen", "is_in"] []
  f_WalksU_initU : Fun K "__init__" "Walks.__init__" s_WalksU_initU (a 15) (d 15)
  b_WalksU_initU : Binds K (d 15) ["self", "signs", "width", "part"] []
  f_Walks_step : Fun K "step" "Walks.step" s_Walks_step (a 16) (d 16)
  b_Walks_step : Binds K (d 16) ["self", "kind", "sign"] []
  f_Walks_grow : Fun K "grow" "Walks.grow" s_Walks_grow (a 17) (d 17)
  b_Walks_grow : Binds K (d 17) ["self"] []
  f_run_exactly : Fun K "run_exactly" "run_exactly" s_run_exactly (a 18) (d 18)
  b_run_exactly : Binds K (d 18) ["signs", "width", "part"] []
  m_run_exactly : mg "run_exactly" = some (.ref (a 18))
  f_run_exactly_holds : Fun K "run_exactly_holds" "run_exactly_holds" s_run_exactly_holds (a 19) (d 19)
  b_run_exactly_holds : Binds K (d 19) ["signs", "width", "part", "told"] []
  m_run_exactly_holds : mg "run_exactly_holds" = some (.ref (a 19))
  f_law : Fun K "law" "law" s_law (a 20) (d 20)
  b_law : Binds K (d 20) ["script"] []
  m_law : mg "law" = some (.ref (a 20))
  n_all : mg "all" = none
  n_any : mg "any" = none
  n_bool : mg "bool" = none
  n_dict : mg "dict" = none
  n_enumerate : mg "enumerate" = none
  n_int : mg "int" = none
  n_isinstance : mg "isinstance" = none
  n_len : mg "len" = none
  n_list : mg "list" = none
  n_max : mg "max" = none
  n_min : mg "min" = none
  n_range : mg "range" = none
  n_sorted : mg "sorted" = none
  n_str : mg "str" = none
  n_sum : mg "sum" = none
  n_tuple : mg "tuple" = none
  t_LETTERS : Tok
  k_LETTERS : mg "LETTERS" = some (.str (Str.ofString "abcdefghijklmnopqrstuvwxyz") t_LETTERS)
  t_MOST_SETS : Tok
  k_MOST_SETS : mg "MOST_SETS" = some (.int 300 t_MOST_SETS)
  cl_Walks : Cls K (cls 0)
  c_Walks : mg "Walks" = some (.ref (cls 0))
  mk_Walks : Mk K (cls 0) (a 15)
  no_part : NoAttr K (cls 0) "part"
  no_signs : NoAttr K (cls 0) "signs"
  no_texts : NoAttr K (cls 0) "texts"
  no_waiting : NoAttr K (cls 0) "waiting"
  no_width : NoAttr K (cls 0) "width"
  me_Walks_grow : Meth K (cls 0) "grow" (a 17)
  me_Walks_kind : Meth K (cls 0) "kind" (a 14)
  me_Walks_step : Meth K (cls 0) "step" (a 16)
abbrev Gm (K : PySem.W.Frag) (w : World) {mg : Str → Option Value} (T : Tx K mg) : Ct := ⟨K, w, T.cls⟩
section
variable {P : Program} {w : World} {K : PySem.W.Frag} {mg : Str → Option Value} {base : Heap}
theorem ok__law_cell_at (T : Tx K mg) : FnOk P w K mg base CX0 1 (T.a 0) (T.d 0) ["script", "k"] (spF (Gm K w T) F__law_cell_at) := by
  refine ok_fn (Γ := Gm K w T) (k := 0) T.f__law_cell_at sc__law_cell_at rfl rfl fun cdv A outer s H E hr => ?_
  have c : Cc (Gm K w T) (cxOf CX0 P w K mg base N__law_cell_at "_law_cell_at" (defScope s__law_cell_at) (T.a 0) cdv A outer s H E).nox := ⟨rfl, rfl, rfl, by have := hr.un; show (A.deeper _).units + 200 < cLine; omega⟩
  exact (oks_cons (ok_sIf (okt_cmp op_Lt (ok_var (pv 1)) (ok_call (pe_callB (cl_lenD c) (by rfl) T.n_len (by decide +kernel) (oka_cons (ok_var (pv 0)) oka_nil))) (by first | rfl | exact nomark _))
 (oks_one (ok_ret (ok_ixD c (ok_var (pv 0)) (ok_var (pv 1)))))
 oks_nil)
 (oks_one (ok_ret ok_int)))
theorem ok__law_draw (T : Tx K mg) : FnOk P w K mg base CX0 1 (T.a 1) (T.d 1) ["cell", "k", "bound"] (spF (Gm K w T) F__law_draw) := by
  refine ok_fn (Γ := Gm K w T) (k := 0) T.f__law_draw sc__law_draw rfl rfl fun cdv A outer s H E hr => ?_
  have c : Cc (Gm K w T) (cxOf CX0 P w K mg base N__law_draw "_law_draw" (defScope s__law_draw) (T.a 1) cdv A outer s H E).nox := ⟨rfl, rfl, rfl, by have := hr.un; show (A.deeper _).units + 200 < cLine; omega⟩
  exact (oks_cons (ok_set (ps_set (i := 3) sc__law_draw.nd rfl (by first | exact Or.inl rfl | exact Or.inr rfl) (ok_tup (oka_cons ok_int (oka_cons ok_int (oka_cons ok_int (oka_cons ok_int (oka_cons ok_int (oka_cons ok_int (oka_cons ok_int (oka_cons ok_int (oka_cons ok_int (oka_cons ok_int (oka_cons ok_int (oka_cons ok_int (oka_cons ok_int (oka_cons ok_int (oka_cons ok_int (oka_cons ok_int oka_nil)))))))))))))))))) rfl)
 (oks_one (ok_ret (ok_bin op_Mod (ok_bin op_Mod (ok_call (pe_callTy cl_int (by rfl) T.n_int (by decide +kernel) (oka_cons (ok_bin (op_Add c) (ok_bin op_Mul (ok_var (pv 0)) ok_int) (ok_bin op_Mul (ok_var (pv 1)) ok_int)) oka_nil))) (ok_ixD c (ok_var (pv 3)) (ok_bin op_Mod (ok_call (pe_callTy cl_int (by rfl) T.n_int (by decide +kernel) (oka_cons (ok_var (pv 1)) oka_nil))) ok_int))) (ok_var (pv 2))))))
theorem ok__law_number (T : Tx K mg) : FnOk P w K mg base CX0 2 (T.a 2) (T.d 2) ["cell", "k", "bound"] (spF (Gm K w T) F__law_number) := by
  refine ok_fn (Γ := Gm K w T) (k := 1) T.f__law_number sc__law_number rfl rfl fun cdv A outer s H E hr => ?_
  have c : Cc (Gm K w T) (cxOf CX0 P w K mg base N__law_number "_law_number" (defScope s__law_number) (T.a 2) cdv A outer s H E).nox := ⟨rfl, rfl, rfl, by have := hr.un; show (A.deeper _).units + 200 < cLine; omega⟩
  exact (oks_cons (ok_set (ps_set (i := 3) sc__law_number.nd rfl (by first | exact Or.inl rfl | exact Or.inr rfl) ok_int) rfl)
 (oks_cons (ok_for c PassesOwn.never (pi_r1 (pi_range1 (by rfl) T.n_range (oka_cons (ok_bin op_Mod (ok_call (pe_callTy cl_int (by rfl) T.n_int (by decide +kernel) (oka_cons (ok_var (pv 1)) oka_nil))) ok_int) oka_nil))) (okg_nm (pg_name (i := 4) sc__law_number.nd rfl (by first | exact Or.inl rfl | exact Or.inr rfl)))
 (oks_one (ok_set (ps_set (i := 3) sc__law_number.nd rfl (by first | exact Or.inl rfl | exact Or.inr rfl) (ok_bin op_Mul (ok_var (pv 3)) ok_int)) rfl)))
 (oks_cons (ok_set (ps_set (i := 5) sc__law_number.nd rfl (by first | exact Or.inl rfl | exact Or.inr rfl) (ok_bin op_Div (ok_bin op_Sub (ok_var (pv 0)) (ok_bin op_Pow ok_int ok_int)) (ok_var (pv 3)))) rfl)
 (oks_cons (ok_sIf (okt_cmp op_Gt (ok_var (pv 5)) ok_int (by first | rfl | exact nomark _))
 (oks_one (ok_ret (ok_bin op_Mod (ok_bin op_Mod (ok_call (pe_callTy cl_int (by rfl) T.n_int (by decide +kernel) (oka_cons (ok_var (pv 5)) oka_nil))) ok_int) (ok_var (pv 2)))))
 oks_nil)
 (oks_cons (ok_set (ps_set (i := 6) sc__law_number.nd rfl (by first | exact Or.inl rfl | exact Or.inr rfl) (ok_bin op_Mod (ok_call (pe_callTy cl_int (by rfl) T.n_int (by decide +kernel) (oka_cons (ok_var (pv 0)) oka_nil))) ok_int)) rfl)
 (oks_one (ok_ret (ok_bin op_Mod (ok_callF (pe_call (ok__law_draw T) (hr.mono (by decide)) (by rfl) T.m__law_draw T.f__law_draw.kp T.b__law_draw .nil pass0 (oka_cons (ok_bin op_Mul (ok_bin (op_Add c) (ok_var (pv 6)) (ok_bin op_Mul ok_int (ok_var (pv 1)))) (ok_bin (op_Add c) (ok_bin (op_Add c) (ok_var (pv 6)) (ok_bin op_Mul ok_int (ok_var (pv 1)))) ok_int)) (oka_cons (ok_bin (op_Add c) (ok_bin op_Mod (ok_call (pe_callTy cl_int (by rfl) T.n_int (by decide +kernel) (oka_cons (ok_var (pv 1)) oka_nil))) ok_int) ok_int) (oka_cons ok_int oka_nil))))) (ok_var (pv 2))))))))))
theorem ok__law_next (T : Tx K mg) : FnOk P w K mg base CX0 3 (T.a 3) (T.d 3) ["draw", "bound"] (spF (Gm K w T) F__law_next) := by
  refine ok_fn (Γ := Gm K w T) (k := 2) T.f__law_next sc__law_next rfl rfl fun cdv A outer s H E hr => ?_
  have c : Cc (Gm K w T) (cxOf CX0 P w K mg base N__law_next "_law_next" (defScope s__law_next) (T.a 3) cdv A outer s H E).nox := ⟨rfl, rfl, rfl, by have := hr.un; show (A.deeper _).units + 200 < cLine; omega⟩
  exact (oks_cons (ok_put c (ok_bin (op_Add c) (ok_ixD c (ok_var (pv 0)) ok_int) ok_int) (ok_var (pv 0)) ok_int)
 (oks_cons (ok_set (ps_set (i := 2) sc__law_next.nd rfl (by first | exact Or.inl rfl | exact Or.inr rfl) (ok_bin op_Div (ok_ixD c (ok_var (pv 0)) ok_int) ok_int)) rfl)
 (oks_cons (ok_set (ps_set (i := 3) sc__law_next.nd rfl (by first | exact Or.inl rfl | exact Or.inr rfl) (ok_bin (op_Add c) (ok_callF (pe_call (ok__law_cell_at T) (hr.mono (by decide)) (by rfl) T.m__law_cell_at T.f__law_cell_at.kp T.b__law_cell_at .nil pass0 (oka_cons (ok_ixD c (ok_var (pv 0)) ok_int) (oka_cons (ok_bin (op_Add c) (ok_ixD c (ok_var (pv 0)) ok_int) (ok_var (pv 2))) oka_nil)))) (ok_bin op_Mul ok_int (ok_var (pv 2))))) rfl)
 (oks_one (ok_ret (ok_callF (pe_call (ok__law_number T) (hr.mono (by decide)) (by rfl) T.m__law_number T.f__law_number.kp T.b__law_number .nil pass0 (oka_cons (ok_var (pv 3)) (oka_cons (ok_bin (op_Add c) (ok_bin op_Mod (ok_call (pe_callTy cl_int (by rfl) T.n_int (by decide +kernel) (oka_cons (ok_ixD c (ok_var (pv 0)) ok_int) oka_nil))) ok_int) ok_int) (oka_cons (ok_var (pv 1)) oka_nil))))))))))
theorem ok__law_pick (T : Tx K mg) : FnOk P w K mg base CX0 4 (T.a 4) (T.d 4) ["draw", "things"] (spF (Gm K w T) F__law_pick) := by
  refine ok_fn (Γ := Gm K w T) (k := 3) T.f__law_pick sc__law_pick rfl rfl fun cdv A outer s H E hr => ?_
  have c : Cc (Gm K w T) (cxOf CX0 P w K mg base N__law_pick "_law_pick" (defScope s__law_pick) (T.a 4) cdv A outer s H E).nox := ⟨rfl, rfl, rfl, by have := hr.un; show (A.deeper _).units + 200 < cLine; omega⟩
  exact (oks_one (ok_ret (ok_ixD c (ok_var (pv 1)) (ok_callF (pe_call (ok__law_next T) (hr.mono (by decide)) (by rfl) T.m__law_next T.f__law_next.kp T.b__law_next .nil pass0 (oka_cons (ok_var (pv 0)) (oka_cons (ok_call (pe_callB (cl_lenD c) (by rfl) T.n_len (by decide +kernel) (oka_cons (ok_var (pv 1)) oka_nil))) oka_nil)))))))
theorem ok_check_signs (T : Tx K mg) : FnOk P w K mg base CX0 1 (T.a 5) (T.d 5) ["signs"] (spF (Gm K w T) F_check_signs) := by
  refine ok_fn (Γ := Gm K w T) (k := 0) T.f_check_signs sc_check_signs rfl rfl fun cdv A outer s H E hr => ?_
  have c : Cc (Gm K w T) (cxOf CX0 P w K mg base N_check_signs "check_signs" (defScope s_check_signs) (T.a 5) cdv A outer s H E).nox := ⟨rfl, rfl, rfl, by have := hr.un; show (A.deeper _).units + 200 < cLine; omega⟩
  exact (oks_cons (ok_sIf (PW.pt (okw_or (okt_not (okt_val (ok_call (pe_callB (cl_isi c) (by rfl) T.n_isinstance (by decide +kernel) (oka_cons (ok_var (pv 0)) (oka_cons (ok_c (pe_bltn (v := .ty "str") (u := .type "str") (by rfl) T.n_str (by decide +kernel) rfl) fun _ _ => .ty 2) oka_nil)))))) (okw_or (okt_not (okt_chain op_Le op_Le ok_int (ok_call (pe_callB (cl_lenD c) (by rfl) T.n_len (by decide +kernel) (oka_cons (ok_var (pv 0)) oka_nil))) ok_int)) (okw_or1 (okt_cmp (op_Ne c) (ok_call (pe_callB (cl_lenD c) (by rfl) T.n_len (by decide +kernel) (oka_cons (ok_dc (own := [1]) (t := (.nm 1)) (pe_dcP (own := [("sign", 1)]) c sc_check_signs.nd (pi_any c (ok_var (pv 0))) (blkOk_by (own := [("sign", 1)]) (N := N_check_signs) (sc := defScope s_check_signs) (by decide +kernel)) (fun _ _ _ _ _ => (okg_nm (pg_name (i := 1) sc_check_signs.nd rfl (by first | exact Or.inl rfl | exact Or.inr rfl)))) (fun _ _ _ _ _ => okts_nil) (fun _ _ _ _ _ => (ok_var (pv 1))) (fun _ _ _ _ _ => ok_bl)) (by simp [Tg.slots, Tg.slotss])) oka_nil))) (ok_call (pe_callB (cl_lenD c) (by rfl) T.n_len (by decide +kernel) (oka_cons (ok_var (pv 0)) oka_nil))) (by first | rfl | exact nomark _))))))
 (oks_one ok_no)
 oks_nil)
 (oks_one (ok_sIf (okt_not (okt_val (ok_call (pe_callB (cl_all c) (by rfl) T.n_all (by decide +kernel) (oka_cons (ok_lc (own := [1]) (t := (.nm 1)) (pe_lc (own := [("sign", 1)]) rfl sc_check_signs.nd (pi_any c (ok_var (pv 0))) (blkOk_by (own := [("sign", 1)]) (N := N_check_signs) (sc := defScope s_check_signs) (by decide +kernel)) (fun _ _ _ _ _ => (okg_nm (pg_name (i := 1) sc_check_signs.nd rfl (by first | exact Or.inl rfl | exact Or.inr rfl)))) (fun _ _ _ _ _ => okts_nil) (fun _ _ _ _ _ => (ok_cmp (op_In' (Cc.blk c)) (ok_var (pv 1)) (ok_c (pe_glob (v := .str (Str.ofString "abcdefghijklmnopqrstuvwxyz")) (by rfl) T.k_LETTERS ⟨_, rfl⟩) fun _ _ => rep_str (by decide +kernel)) (by first | rfl | exact nomark _)))) (by simp [Tg.slots, Tg.slotss])) oka_nil)))))
 (oks_one ok_no)
 oks_nil)))
theorem ok_check_run (T : Tx K mg) : FnOk P w K mg base CX0 2 (T.a 6) (T.d 6) ["signs", "text"] (spF (Gm K w T) F_check_run) := by
  refine ok_fn (Γ := Gm K w T) (k := 1) T.f_check_run sc_check_run rfl rfl fun cdv A outer s H E hr => ?_
  have c : Cc (Gm K w T) (cxOf CX0 P w K mg base N_check_run "check_run" (defScope s_check_run) (T.a 6) cdv A outer s H E).nox := ⟨rfl, rfl, rfl, by have := hr.un; show (A.deeper _).units + 200 < cLine; omega⟩
  exact (oks_cons (ok_ex (ok_callF (pe_call ((ok_check_signs T).imp frm_sp) (hr.mono (by decide)) (by rfl) T.m_check_signs T.f_check_signs.kp T.b_check_signs .nil pass0 (oka_cons (ok_var (pv 0)) oka_nil))))
 (oks_one (ok_sIf (PW.pt (okw_or (okt_not (okt_val (ok_call (pe_callB (cl_isi c) (by rfl) T.n_isinstance (by decide +kernel) (oka_cons (ok_var (pv 1)) (oka_cons (ok_c (pe_bltn (v := .ty "str") (u := .type "str") (by rfl) T.n_str (by decide +kernel) rfl) fun _ _ => .ty 2) oka_nil)))))) (okw_or (okt_cmp op_Gt (ok_call (pe_callB (cl_lenD c) (by rfl) T.n_len (by decide +kernel) (oka_cons (ok_var (pv 1)) oka_nil))) ok_int (by first | rfl | exact nomark _)) (okw_or1 (okt_not (okt_val (ok_call (pe_callB (cl_all c) (by rfl) T.n_all (by decide +kernel) (oka_cons (ok_lc (own := [2]) (t := (.nm 2)) (pe_lc (own := [("sign", 2)]) rfl sc_check_run.nd (pi_any c (ok_var (pv 1))) (blkOk_by (own := [("sign", 2)]) (N := N_check_run) (sc := defScope s_check_run) (by decide +kernel)) (fun _ _ _ _ _ => (okg_nm (pg_name (i := 2) sc_check_run.nd rfl (by first | exact Or.inl rfl | exact Or.inr rfl)))) (fun _ _ _ _ _ => okts_nil) (fun _ _ _ _ _ => (ok_cmp (op_In' (Cc.blk c)) (ok_var (pv 2)) (ok_var (pv 0)) (by first | rfl | exact nomark _)))) (by simp [Tg.slots, Tg.slotss])) oka_nil)))))))))
 (oks_one ok_no)
 oks_nil)))
theorem ok_is_whole (T : Tx K mg) : FnOk P w K mg base CX0 1 (T.a 7) (T.d 7) ["thing"] (spF (Gm K w T) F_is_whole) := by
  refine ok_fn (Γ := Gm K w T) (k := 0) T.f_is_whole sc_is_whole rfl rfl fun cdv A outer s H E hr => ?_
  have c : Cc (Gm K w T) (cxOf CX0 P w K mg base N_is_whole "is_whole" (defScope s_is_whole) (T.a 7) cdv A outer s H E).nox := ⟨rfl, rfl, rfl, by have := hr.un; show (A.deeper _).units + 200 < cLine; omega⟩
  exact (oks_one (ok_ret (ok_and (ok_call (pe_callB (cl_isi c) (by rfl) T.n_isinstance (by decide +kernel) (oka_cons (ok_var (pv 0)) (oka_cons (ok_c (pe_bltn (v := .ty "int") (u := .type "int") (by rfl) T.n_int (by decide +kernel) rfl) fun _ _ => .ty 0) oka_nil)))) (ok_one (ok_not (ok_call (pe_callB (cl_isi c) (by rfl) T.n_isinstance (by decide +kernel) (oka_cons (ok_var (pv 0)) (oka_cons (ok_c (pe_bltn (v := .ty "bool") (u := .type "bool") (by rfl) T.n_bool (by decide +kernel) rfl) fun _ _ => .ty 1) oka_nil)))))))))
theorem ok_is_from (T : Tx K mg) : FnOk P w K mg base CX0 2 (T.a 8) (T.d 8) ["thing", "least", "most"] (spF (Gm K w T) F_is_from) := by
  refine ok_fn (Γ := Gm K w T) (k := 1) T.f_is_from sc_is_from rfl rfl fun cdv A outer s H E hr => ?_
  have c : Cc (Gm K w T) (cxOf CX0 P w K mg base N_is_from "is_from" (defScope s_is_from) (T.a 8) cdv A outer s H E).nox := ⟨rfl, rfl, rfl, by have := hr.un; show (A.deeper _).units + 200 < cLine; omega⟩
  exact (oks_one (ok_ret (ok_and (ok_callF (pe_call ((ok_is_whole T).imp frm_sp) (hr.mono (by decide)) (by rfl) T.m_is_whole T.f_is_whole.kp T.b_is_whole .nil pass0 (oka_cons (ok_var (pv 0)) oka_nil))) (ok_one (ok_chain op_Le op_Le (ok_var (pv 1)) (ok_var (pv 0)) (ok_var (pv 2)))))))
theorem ok_check_width (T : Tx K mg) : FnOk P w K mg base CX0 3 (T.a 9) (T.d 9) ["width"] (spF (Gm K w T) F_check_width) := by
  refine ok_fn (Γ := Gm K w T) (k := 2) T.f_check_width sc_check_width rfl rfl fun cdv A outer s H E hr => ?_
  have c : Cc (Gm K w T) (cxOf CX0 P w K mg base N_check_width "check_width" (defScope s_check_width) (T.a 9) cdv A outer s H E).nox := ⟨rfl, rfl, rfl, by have := hr.un; show (A.deeper _).units + 200 < cLine; omega⟩
  exact (oks_one (ok_sIf (okt_not (okt_val (ok_callF (pe_call ((ok_is_from T).imp frm_sp) (hr.mono (by decide)) (by rfl) T.m_is_from T.f_is_from.kp T.b_is_from .nil pass0 (oka_cons (ok_var (pv 0)) (oka_cons ok_int (oka_cons ok_int oka_nil)))))))
 (oks_one ok_no)
 oks_nil))
theorem ok_runs_of (T : Tx K mg) : FnOk P w K mg base CX0 4 (T.a 10) (T.d 10) ["signs", "text", "width"] (spF (Gm K w T) F_runs_of) := by
  refine ok_fn (Γ := Gm K w T) (k := 3) T.f_runs_of sc_runs_of rfl rfl fun cdv A outer s H E hr => ?_
  have c : Cc (Gm K w T) (cxOf CX0 P w K mg base N_runs_of "runs_of" (defScope s_runs_of) (T.a 10) cdv A outer s H E).nox := ⟨rfl, rfl, rfl, by have := hr.un; show (A.deeper _).units + 200 < cLine; omega⟩
  exact (oks_cons (ok_ex (ok_callF (pe_call ((ok_check_run T).imp frm_sp) (hr.mono (by decide)) (by rfl) T.m_check_run T.f_check_run.kp T.b_check_run .nil pass0 (oka_cons (ok_var (pv 0)) (oka_cons (ok_var (pv 1)) oka_nil)))))
 (oks_cons (ok_ex (ok_callF (pe_call ((ok_check_width T).imp frm_sp) (hr.mono (by decide)) (by rfl) T.m_check_width T.f_check_width.kp T.b_check_width .nil pass0 (oka_cons (ok_var (pv 2)) oka_nil))))
 (oks_one (ok_ret (ok_call (pe_callTy (cl_tuple c) (by rfl) T.n_tuple (by decide +kernel) (oka_cons (ok_call (pe_callB (cr_sortedP c) (by rfl) T.n_sorted (by decide +kernel) (oka_cons (ok_dc (own := [3]) (t := (.nm 3)) (pe_dcP (own := [("at", 3)]) c sc_runs_of.nd (pi_r1 (pi_range1 (by rfl) T.n_range (oka_cons (ok_bin (op_Add c) (ok_bin op_Sub (ok_call (pe_callB (cl_lenD c) (by rfl) T.n_len (by decide +kernel) (oka_cons (ok_var (pv 1)) oka_nil))) (ok_var (pv 2))) ok_int) oka_nil))) (blkOk_by (own := [("at", 3)]) (N := N_runs_of) (sc := defScope s_runs_of) (by decide +kernel)) (fun _ _ _ _ _ => (okg_nm (pg_name (i := 3) sc_runs_of.nd rfl (by first | exact Or.inl rfl | exact Or.inr rfl)))) (fun _ _ _ _ _ => okts_nil) (fun _ _ _ _ _ => (ok_sl (Cc.blk c) (ok_var (pv 1)) (okp_some (ok_var (pv 3))) (okp_some (ok_bin (op_Add (Cc.blk c)) (ok_var (pv 3)) (ok_var (pv 2)))))) (fun _ _ _ _ _ => ok_bl)) (by simp [Tg.slots, Tg.slotss])) oka_nil))) oka_nil)))))))
theorem ok_run_postings (T : Tx K mg) : FnOk P w K mg base CX0 5 (T.a 11) (T.d 11) ["signs", "texts", "width"] (spF (Gm K w T) F_run_postings) := by
  refine ok_fn (Γ := Gm K w T) (k := 4) T.f_run_postings sc_run_postings rfl rfl fun cdv A outer s H E hr => ?_
  have c : Cc (Gm K w T) (cxOf CX0 P w K mg base N_run_postings "run_postings" (defScope s_run_postings) (T.a 11) cdv A outer s H E).nox := ⟨rfl, rfl, rfl, by have := hr.un; show (A.deeper _).units + 200 < cLine; omega⟩
  exact (oks_cons (ok_ex (ok_callF (pe_call ((ok_check_signs T).imp frm_sp) (hr.mono (by decide)) (by rfl) T.m_check_signs T.f_check_signs.kp T.b_check_signs .nil pass0 (oka_cons (ok_var (pv 0)) oka_nil))))
 (oks_cons (ok_sIf (PW.pt (okw_or (okt_not (okt_val (ok_call (pe_callB (cl_isi c) (by rfl) T.n_isinstance (by decide +kernel) (oka_cons (ok_var (pv 1)) (oka_cons (ok_c (pe_bltn (v := .ty "tuple") (u := .type "tuple") (by rfl) T.n_tuple (by decide +kernel) rfl) fun _ _ => .ty 3) oka_nil)))))) (okw_or1 (okt_cmp op_Gt (ok_call (pe_callB (cl_lenD c) (by rfl) T.n_len (by decide +kernel) (oka_cons (ok_var (pv 1)) oka_nil))) ok_int (by first | rfl | exact nomark _)))))
 (oks_one ok_no)
 oks_nil)
 (oks_cons (ok_for c PassesOwn.never (pi_any c (ok_var (pv 1))) (okg_nm (pg_name (i := 3) sc_run_postings.nd rfl (by first | exact Or.inl rfl | exact Or.inr rfl)))
 (oks_one (ok_ex (ok_callF (pe_call ((ok_check_run T).imp frm_sp) (hr.mono (by decide)) (by rfl) T.m_check_run T.f_check_run.kp T.b_check_run .nil pass0 (oka_cons (ok_var (pv 0)) (oka_cons (ok_var (pv 3)) oka_nil)))))))
 (oks_cons (ok_ex (ok_callF (pe_call ((ok_check_width T).imp frm_sp) (hr.mono (by decide)) (by rfl) T.m_check_width T.f_check_width.kp T.b_check_width .nil pass0 (oka_cons (ok_var (pv 2)) oka_nil))))
 (oks_cons (ok_set (ps_set (i := 4) sc_run_postings.nd rfl (by first | exact Or.inl rfl | exact Or.inr rfl) (ok_d0N c)) rfl)
 (oks_cons (ok_for c PassesOwn.never (pi_enumF c (by rfl) T.n_enumerate (oka_cons (ok_var (pv 1)) oka_nil)) (okg_tp c (okgs_cons (okg_nm (pg_name (i := 5) sc_run_postings.nd rfl (by first | exact Or.inl rfl | exact Or.inr rfl))) (okgs_cons (okg_nm (pg_name (i := 3) sc_run_postings.nd rfl (by first | exact Or.inl rfl | exact Or.inr rfl))) okgs_nil)))
 (oks_one (ok_for c PassesOwn.never (pi_any c (ok_callF (pe_call ((ok_runs_of T).imp frm_sp) (hr.mono (by decide)) (by rfl) T.m_runs_of T.f_runs_of.kp T.b_runs_of .nil pass0 (oka_cons (ok_var (pv 0)) (oka_cons (ok_var (pv 3)) (oka_cons (ok_var (pv 2)) oka_nil)))))) (okg_nm (pg_name (i := 6) sc_run_postings.nd rfl (by first | exact Or.inl rfl | exact Or.inr rfl)))
 (oks_one (ok_put c (ok_tup (oka_star c (ok_m c (k := 5) (.inr (.inr rfl)) PySem.F.plainAttrs_dict PySem.F.slot_dict_get PySem.F.type_dict_get (mt_get2 c) (ok_var (pv 4)) (oka_cons (ok_var (pv 6)) (oka_cons (ok_tup oka_nil) oka_nil))) (oka_cons (ok_var (pv 5)) oka_nil))) (ok_var (pv 4)) (ok_var (pv 6)))))))
 (oks_one (ok_ret (ok_dc (own := [6]) (t := (.nm 6)) (pe_dcP (own := [("run", 6)]) c sc_run_postings.nd (pi_any c (ok_call (pe_callB (cr_sortedP c) (by rfl) T.n_sorted (by decide +kernel) (oka_cons (ok_var (pv 4)) oka_nil)))) (blkOk_by (own := [("run", 6)]) (N := N_run_postings) (sc := defScope s_run_postings) (by decide +kernel)) (fun _ _ _ _ _ => (okg_nm (pg_name (i := 6) sc_run_postings.nd rfl (by first | exact Or.inl rfl | exact Or.inr rfl)))) (fun _ _ _ _ _ => okts_nil) (fun _ _ _ _ _ => (ok_var (pv 6))) (fun _ _ _ _ _ => (ok_ixD (Cc.blk c) (ok_var (pv 4)) (ok_var (pv 6))))) (by simp [Tg.slots, Tg.slotss]))))))))))
theorem ok_may_have (T : Tx K mg) : FnOk P w K mg base CX0 5 (T.a 12) (T.d 12) ["signs", "table", "width", "many", "part"] (spF (Gm K w T) F_may_have) := by
  refine ok_fn (Γ := Gm K w T) (k := 4) T.f_may_have sc_may_have rfl rfl fun cdv A outer s H E hr => ?_
  have c : Cc (Gm K w T) (cxOf CX0 P w K mg base N_may_have "may_have" (defScope s_may_have) (T.a 12) cdv A outer s H E).nox := ⟨rfl, rfl, rfl, by have := hr.un; show (A.deeper _).units + 200 < cLine; omega⟩
  exact (oks_cons (ok_ex (ok_callF (pe_call ((ok_check_signs T).imp frm_sp) (hr.mono (by decide)) (by rfl) T.m_check_signs T.f_check_signs.kp T.b_check_signs .nil pass0 (oka_cons (ok_var (pv 0)) oka_nil))))
 (oks_cons (ok_ex (ok_callF (pe_call ((ok_check_width T).imp frm_sp) (hr.mono (by decide)) (by rfl) T.m_check_width T.f_check_width.kp T.b_check_width .nil pass0 (oka_cons (ok_var (pv 2)) oka_nil))))
 (oks_cons (ok_ex (ok_callF (pe_call ((ok_check_run T).imp frm_sp) (hr.mono (by decide)) (by rfl) T.m_check_run T.f_check_run.kp T.b_check_run .nil pass0 (oka_cons (ok_var (pv 0)) (oka_cons (ok_var (pv 4)) oka_nil)))))
 (oks_cons (ok_sIf (okt_not (okt_val (ok_callF (pe_call ((ok_is_from T).imp frm_sp) (hr.mono (by decide)) (by rfl) T.m_is_from T.f_is_from.kp T.b_is_from .nil pass0 (oka_cons (ok_var (pv 3)) (oka_cons ok_int (oka_cons ok_int oka_nil)))))))
 (oks_one ok_no)
 oks_nil)
 (oks_cons (ok_sIf (okt_not (okt_val (ok_call (pe_callB (cl_isi c) (by rfl) T.n_isinstance (by decide +kernel) (oka_cons (ok_var (pv 1)) (oka_cons (ok_c (pe_bltn (v := .ty "dict") (u := .type "dict") (by rfl) T.n_dict (by decide +kernel) rfl) fun _ _ => .ty 5) oka_nil))))))
 (oks_one ok_no)
 oks_nil)
 (oks_cons (ok_set (ps_set (i := 5) sc_may_have.nd rfl (by first | exact Or.inl rfl | exact Or.inr rfl) (ok_callF (pe_call ((ok_runs_of T).imp frm_sp) (hr.mono (by decide)) (by rfl) T.m_runs_of T.f_runs_of.kp T.b_runs_of .nil pass0 (oka_cons (ok_var (pv 0)) (oka_cons (ok_var (pv 4)) (oka_cons (ok_var (pv 2)) oka_nil)))))) rfl)
 (oks_one (ok_ret (ok_call (pe_callTy (cl_tuple c) (by rfl) T.n_tuple (by decide +kernel) (oka_cons (ok_lc (own := [6]) (t := (.nm 6)) (pe_lc (own := [("number", 6)]) rfl sc_may_have.nd (pi_r1 (pi_range1 (by rfl) T.n_range (oka_cons (ok_var (pv 3)) oka_nil))) (blkOk_by (own := [("number", 6)]) (N := N_may_have) (sc := defScope s_may_have) (by decide +kernel)) (fun _ _ _ _ _ => (okg_nm (pg_name (i := 6) sc_may_have.nd rfl (by first | exact Or.inl rfl | exact Or.inr rfl)))) (fun _ _ _ _ _ => (pts_one (okt_val (ok_call (pe_callB (cl_all (Cc.blk c)) (by rfl) T.n_all (by decide +kernel) (oka_cons (ok_lc (own := [7]) (t := (.nm 7)) (pe_lc (own := [("run", 7)]) rfl sc_may_have.nd (pi_any (Cc.blk c) (ok_var (pv 5))) (blkOk_by (own := [("run", 7)]) (by rfl)) (fun _ _ _ _ _ => (okg_nm (pg_name (i := 7) sc_may_have.nd rfl (by first | exact Or.inl rfl | exact Or.inr rfl)))) (fun _ _ _ _ _ => okts_nil) (fun _ _ _ _ _ => (ok_cmp (op_In' (Cc.blk (Cc.blk c))) (ok_var (pv 6)) (ok_m (Cc.blk (Cc.blk c)) (k := 5) (.inr (.inr rfl)) PySem.F.plainAttrs_dict PySem.F.slot_dict_get PySem.F.type_dict_get (mt_get2 (Cc.blk (Cc.blk c))) (ok_var (pv 1)) (oka_cons (ok_var (pv 7)) (oka_cons (ok_tup oka_nil) oka_nil))) (by first | rfl | exact nomark _)))) (by simp [Tg.slots, Tg.slotss])) oka_nil)))))) (fun _ _ _ _ _ => (ok_var (pv 6)))) (by simp [Tg.slots, Tg.slotss])) oka_nil)))))))))))
theorem ok_search (T : Tx K mg) : FnOk P w K mg base CX0 6 (T.a 13) (T.d 13) ["signs", "texts", "width", "part"] (spF (Gm K w T) F_search) := by
  refine ok_fn (Γ := Gm K w T) (k := 5) T.f_search sc_search rfl rfl fun cdv A outer s H E hr => ?_
  have c : Cc (Gm K w T) (cxOf CX0 P w K mg base N_search "search" (defScope s_search) (T.a 13) cdv A outer s H E).nox := ⟨rfl, rfl, rfl, by have := hr.un; show (A.deeper _).units + 200 < cLine; omega⟩
  exact (oks_cons (ok_set (ps_set (i := 4) sc_search.nd rfl (by first | exact Or.inl rfl | exact Or.inr rfl) (ok_callF (pe_call ((ok_run_postings T).imp frm_sp) (hr.mono (by decide)) (by rfl) T.m_run_postings T.f_run_postings.kp T.b_run_postings .nil pass0 (oka_cons (ok_var (pv 0)) (oka_cons (ok_var (pv 1)) (oka_cons (ok_var (pv 2)) oka_nil)))))) rfl)
 (oks_cons (ok_set (ps_set (i := 5) sc_search.nd rfl (by first | exact Or.inl rfl | exact Or.inr rfl) (ok_callF (pe_call ((ok_may_have T).imp frm_sp) (hr.mono (by decide)) (by rfl) T.m_may_have T.f_may_have.kp T.b_may_have .nil pass0 (oka_cons (ok_var (pv 0)) (oka_cons (ok_var (pv 4)) (oka_cons (ok_var (pv 2)) (oka_cons (ok_call (pe_callB (cl_lenD c) (by rfl) T.n_len (by decide +kernel) (oka_cons (ok_var (pv 1)) oka_nil))) (oka_cons (ok_var (pv 3)) oka_nil)))))))) rfl)
 (oks_one (ok_ret (ok_tup (oka_cons (ok_call (pe_callTy (cl_tuple c) (by rfl) T.n_tuple (by decide +kernel) (oka_cons (ok_lc (own := [6]) (t := (.nm 6)) (pe_lc (own := [("number", 6)]) rfl sc_search.nd (pi_any c (ok_var (pv 5))) (blkOk_by (own := [("number", 6)]) (N := N_search) (sc := defScope s_search) (by decide +kernel)) (fun _ _ _ _ _ => (okg_nm (pg_name (i := 6) sc_search.nd rfl (by first | exact Or.inl rfl | exact Or.inr rfl)))) (fun _ _ _ _ _ => (pts_one (okt_cmp (op_In' (Cc.blk c)) (ok_var (pv 3)) (ok_ixD (Cc.blk c) (ok_var (pv 1)) (ok_var (pv 6))) (by first | rfl | exact nomark _)))) (fun _ _ _ _ _ => (ok_var (pv 6)))) (by simp [Tg.slots, Tg.slotss])) oka_nil))) (oka_cons (ok_call (pe_callB (cl_lenD c) (by rfl) T.n_len (by decide +kernel) (oka_cons (ok_var (pv 5)) oka_nil))) oka_nil)))))))
theorem ok_Walks_kind (T : Tx K mg) : FnOk P w K mg base CX0 1 (T.a 14) (T.d 14) ["self", "runs", "tail", "seen", "is_in"] (spF (Gm K w T) F_Walks_kind) := by
  refine ok_fn (Γ := Gm K w T) (k := 0) T.f_Walks_kind sc_Walks_kind rfl rfl fun cdv A outer s H E hr => ?_
  have c : Cc (Gm K w T) (cxOf CX0 P w K mg base N_Walks_kind "Walks.kind" (defScope s_Walks_kind) (T.a 14) cdv A outer s H E).nox := ⟨rfl, rfl, rfl, by have := hr.un; show (A.deeper _).units + 200 < cLine; omega⟩
  exact (oks_cons (ok_set (ps_set (i := 5) sc_Walks_kind.nd rfl (by first | exact Or.inl rfl | exact Or.inr rfl) (ok_call (pe_callB (cl_max c) (by rfl) T.n_max (by decide +kernel) (oka_cons (ok_lst (oka_cons (ok_bin op_Sub (ok_call (pe_callB (cl_lenD c) (by rfl) T.n_len (by decide +kernel) (oka_cons (ok_fld (Γ := Gm K w T) (cx := 0) (nm := [112, 97, 114, 116]) (ok_var (pv 0)) (by decide +kernel) T.cl_Walks T.no_part) oka_nil))) ok_int) (oka_cons ok_int oka_nil))) oka_nil)))) rfl)
 (oks_one (ok_ret (ok_tup (oka_cons (ok_var (pv 1)) (oka_cons (ok_var (pv 2)) (oka_cons (ok_if (okt_not (okt_val (ok_var (pv 4)))) (ok_sl c (ok_var (pv 3)) (okp_some (ok_bin op_Sub (ok_call (pe_callB (cl_lenD c) (by rfl) T.n_len (by decide +kernel) (oka_cons (ok_var (pv 3)) oka_nil))) (ok_call (pe_callB (cl_min c) (by rfl) T.n_min (by decide +kernel) (oka_cons (ok_lst (oka_cons (ok_var (pv 5)) (oka_cons (ok_call (pe_callB (cl_lenD c) (by rfl) T.n_len (by decide +kernel) (oka_cons (ok_var (pv 3)) oka_nil))) oka_nil))) oka_nil))))) okp_none) (ok_str (c := []) (by decide +kernel))) (oka_cons (ok_var (pv 4)) oka_nil))))))))
theorem ok_WalksU_initU (T : Tx K mg) : FnOk P w K mg base CX0 2 (T.a 15) (T.d 15) ["self", "signs", "width", "part"] (spF (Gm K w T) F_WalksU_initU) := by
  refine ok_fn (Γ := Gm K w T) (k := 1) T.f_WalksU_initU sc_WalksU_initU rfl rfl fun cdv A outer s H E hr => ?_
  have c : Cc (Gm K w T) (cxOf CX0 P w K mg base N_WalksU_initU "Walks.__init__" (defScope s_WalksU_initU) (T.a 15) cdv A outer s H E).nox := ⟨rfl, rfl, rfl, by have := hr.un; show (A.deeper _).units + 200 < cLine; omega⟩
  exact (oks_cons (ok_sfld (Γ := Gm K w T) (cx := 0) (nm := [115, 105, 103, 110, 115]) (ok_var (pv 0)) (ok_var (pv 1)) (by decide +kernel) T.cl_Walks T.no_signs)
 (oks_cons (ok_sfld (Γ := Gm K w T) (cx := 0) (nm := [119, 105, 100, 116, 104]) (ok_var (pv 0)) (ok_var (pv 2)) (by decide +kernel) T.cl_Walks T.no_width)
 (oks_cons (ok_sfld (Γ := Gm K w T) (cx := 0) (nm := [112, 97, 114, 116]) (ok_var (pv 0)) (ok_var (pv 3)) (by decide +kernel) T.cl_Walks T.no_part)
 (oks_cons (ok_set (ps_set (i := 4) sc_WalksU_initU.nd rfl (by first | exact Or.inl rfl | exact Or.inr rfl) (ok_meth (Γ := Gm K w T) (cx := 0) (nm := [107, 105, 110, 100]) (by decide +kernel) (pe_meth (ok_var (pv 0)) T.cl_Walks T.me_Walks_kind (ok_Walks_kind T) (hr.mono (by decide)) T.b_Walks_kind .nil pass0 (oka_cons (ok_tup oka_nil) (oka_cons (ok_str (c := []) (by decide +kernel)) (oka_cons (ok_str (c := []) (by decide +kernel)) (oka_cons (ok_cmp (op_Eq c) (ok_str (c := []) (by decide +kernel)) (ok_var (pv 3)) (by first | rfl | exact nomark _)) oka_nil))))))) rfl)
 (oks_cons (ok_sfld (Γ := Gm K w T) (cx := 0) (nm := [116, 101, 120, 116, 115]) (ok_var (pv 0)) (ok_d1N c (ok_var (pv 4)) (ok_str (c := []) (by decide +kernel))) (by decide +kernel) T.cl_Walks T.no_texts)
 (oks_one (ok_sfld (Γ := Gm K w T) (cx := 0) (nm := [119, 97, 105, 116, 105, 110, 103]) (ok_var (pv 0)) (ok_new (oka_cons (ok_var (pv 4)) oka_nil)) (by decide +kernel) T.cl_Walks T.no_waiting)))))))
theorem ok_Walks_step (T : Tx K mg) : FnOk P w K mg base CX0 2 (T.a 16) (T.d 16) ["self", "kind", "sign"] (spF (Gm K w T) F_Walks_step) := by
  refine ok_fn (Γ := Gm K w T) (k := 1) T.f_Walks_step sc_Walks_step rfl rfl fun cdv A outer s H E hr => ?_
  have c : Cc (Gm K w T) (cxOf CX0 P w K mg base N_Walks_step "Walks.step" (defScope s_Walks_step) (T.a 16) cdv A outer s H E).nox := ⟨rfl, rfl, rfl, by have := hr.un; show (A.deeper _).units + 200 < cLine; omega⟩
  exact (oks_cons (ok_asg (ok_var (pv 1)) (okg_tp c (okgs_cons (okg_nm (pg_name (i := 3) sc_Walks_step.nd rfl (by first | exact Or.inl rfl | exact Or.inr rfl))) (okgs_cons (okg_nm (pg_name (i := 4) sc_Walks_step.nd rfl (by first | exact Or.inl rfl | exact Or.inr rfl))) (okgs_cons (okg_nm (pg_name (i := 5) sc_Walks_step.nd rfl (by first | exact Or.inl rfl | exact Or.inr rfl))) (okgs_cons (okg_nm (pg_name (i := 6) sc_Walks_step.nd rfl (by first | exact Or.inl rfl | exact Or.inr rfl))) okgs_nil))))))
 (oks_cons (ok_par (ps_par (i := 7) (j := 8) rfl sc_Walks_step.nd rfl rfl (by decide) rfl rfl (oka_cons (ok_bin (op_Add c) (ok_var (pv 4)) (ok_var (pv 2))) (oka_cons (ok_bin (op_Add c) (ok_var (pv 5)) (ok_var (pv 2))) oka_nil)) (by rfl)))
 (oks_cons (ok_sIf (okt_cmp op_Ge (ok_call (pe_callB (cl_lenD c) (by rfl) T.n_len (by decide +kernel) (oka_cons (ok_var (pv 7)) oka_nil))) (ok_fld (Γ := Gm K w T) (cx := 0) (nm := [119, 105, 100, 116, 104]) (ok_var (pv 0)) (by decide +kernel) T.cl_Walks T.no_width) (by first | rfl | exact nomark _))
 (oks_cons (ok_set (ps_set (i := 3) sc_Walks_step.nd rfl (by first | exact Or.inl rfl | exact Or.inr rfl) (ok_call (pe_callTy (cl_tuple c) (by rfl) T.n_tuple (by decide +kernel) (oka_cons (ok_call (pe_callB (cr_sortedP c) (by rfl) T.n_sorted (by decide +kernel) (oka_cons (ok_sk c (ok_call (pe_callTy (cl_dict c) (by rfl) T.n_dict (by decide +kernel) (oka_cons (ok_lc (own := [9]) (t := (.nm 9)) (pe_lc (own := [("run", 9)]) rfl sc_Walks_step.nd (pi_any c (ok_var (pv 3))) (blkOk_by (own := [("run", 9)]) (N := N_Walks_step) (sc := defScope s_Walks_step) (by decide +kernel)) (fun _ _ _ _ _ => (okg_nm (pg_name (i := 9) sc_Walks_step.nd rfl (by first | exact Or.inl rfl | exact Or.inr rfl)))) (fun _ _ _ _ _ => okts_nil) (fun _ _ _ _ _ => (ok_tup (oka_cons (ok_var (pv 9)) (oka_cons ok_bl oka_nil))))) (by simp [Tg.slots, Tg.slotss])) oka_nil))) (ok_var (pv 7)) ok_bl) oka_nil))) oka_nil)))) rfl)
 (oks_one (ok_set (ps_set (i := 7) sc_Walks_step.nd rfl (by first | exact Or.inl rfl | exact Or.inr rfl) (ok_sl c (ok_var (pv 7)) (okp_some ok_int) okp_none)) rfl)))
 oks_nil)
 (oks_one (ok_ret (ok_meth (Γ := Gm K w T) (cx := 0) (nm := [107, 105, 110, 100]) (by decide +kernel) (pe_meth (ok_var (pv 0)) T.cl_Walks T.me_Walks_kind (ok_Walks_kind T) (hr.mono (by decide)) T.b_Walks_kind .nil pass0 (oka_cons (ok_var (pv 3)) (oka_cons (ok_var (pv 7)) (oka_cons (ok_var (pv 8)) (oka_cons (ok_or (ok_var (pv 6)) (ok_one (ok_cmp (op_Eq c) (ok_sl c (ok_var (pv 8)) (okp_some (ok_un un_Neg (ok_call (pe_callB (cl_lenD c) (by rfl) T.n_len (by decide +kernel) (oka_cons (ok_fld (Γ := Gm K w T) (cx := 0) (nm := [112, 97, 114, 116]) (ok_var (pv 0)) (by decide +kernel) T.cl_Walks T.no_part) oka_nil))))) okp_none) (ok_fld (Γ := Gm K w T) (cx := 0) (nm := [112, 97, 114, 116]) (ok_var (pv 0)) (by decide +kernel) T.cl_Walks T.no_part) (by first | rfl | exact nomark _)))) oka_nil)))))))))))
theorem ok_Walks_grow (T : Tx K mg) : FnOk P w K mg base CX0 3 (T.a 17) (T.d 17) ["self"] (spF (Gm K w T) F_Walks_grow) := by
  refine ok_fn (Γ := Gm K w T) (k := 2) T.f_Walks_grow sc_Walks_grow rfl rfl fun cdv A outer s H E hr => ?_
  have c : Cc (Gm K w T) (cxOf CX0 P w K mg base N_Walks_grow "Walks.grow" (defScope s_Walks_grow) (T.a 17) cdv A outer s H E).nox := ⟨rfl, rfl, rfl, by have := hr.un; show (A.deeper _).units + 200 < cLine; omega⟩
  exact (oks_cons (ok_set (ps_set (i := 1) sc_Walks_grow.nd rfl (by first | exact Or.inl rfl | exact Or.inr rfl) ok_int) rfl)
 (oks_one (ok_while (k := 100000) PassesOwn.never (okt_cmp op_Lt (ok_var (pv 1)) (ok_call (pe_callB (cl_lenD c) (by rfl) T.n_len (by decide +kernel) (oka_cons (ok_fld (Γ := Gm K w T) (cx := 0) (nm := [119, 97, 105, 116, 105, 110, 103]) (ok_var (pv 0)) (by decide +kernel) T.cl_Walks T.no_waiting) oka_nil))) (by first | rfl | exact nomark _))
 (oks_cons (ok_set (ps_set (i := 2) sc_Walks_grow.nd rfl (by first | exact Or.inl rfl | exact Or.inr rfl) (ok_ixD c (ok_fld (Γ := Gm K w T) (cx := 0) (nm := [119, 97, 105, 116, 105, 110, 103]) (ok_var (pv 0)) (by decide +kernel) T.cl_Walks T.no_waiting) (ok_var (pv 1)))) rfl)
 (oks_cons (ok_for c PassesOwn.never (pi_any c (ok_fld (Γ := Gm K w T) (cx := 0) (nm := [115, 105, 103, 110, 115]) (ok_var (pv 0)) (by decide +kernel) T.cl_Walks T.no_signs)) (okg_nm (pg_name (i := 3) sc_Walks_grow.nd rfl (by first | exact Or.inl rfl | exact Or.inr rfl)))
 (oks_cons (ok_set (ps_set (i := 4) sc_Walks_grow.nd rfl (by first | exact Or.inl rfl | exact Or.inr rfl) (ok_meth (Γ := Gm K w T) (cx := 0) (nm := [115, 116, 101, 112]) (by decide +kernel) (pe_meth (ok_var (pv 0)) T.cl_Walks T.me_Walks_step (ok_Walks_step T) (hr.mono (by decide)) T.b_Walks_step .nil pass0 (oka_cons (ok_var (pv 2)) (oka_cons (ok_var (pv 3)) oka_nil))))) rfl)
 (oks_one (ok_sIf (okt_cmp (op_NotIn' c) (ok_var (pv 4)) (ok_fld (Γ := Gm K w T) (cx := 0) (nm := [116, 101, 120, 116, 115]) (ok_var (pv 0)) (by decide +kernel) T.cl_Walks T.no_texts) (by first | rfl | exact nomark _))
 (oks_cons (ok_put c (ok_bin (op_Add c) (ok_ixD c (ok_fld (Γ := Gm K w T) (cx := 0) (nm := [116, 101, 120, 116, 115]) (ok_var (pv 0)) (by decide +kernel) T.cl_Walks T.no_texts) (ok_var (pv 2))) (ok_var (pv 3))) (ok_fld (Γ := Gm K w T) (cx := 0) (nm := [116, 101, 120, 116, 115]) (ok_var (pv 0)) (by decide +kernel) T.cl_Walks T.no_texts) (ok_var (pv 4)))
 (oks_one (ok_ex (ok_m c (k := 4) (.inr (.inl rfl)) PySem.F.plainAttrs_list PySem.F.slot_list_append PySem.F.type_list_append mt_app (ok_fld (Γ := Gm K w T) (cx := 0) (nm := [119, 97, 105, 116, 105, 110, 103]) (ok_var (pv 0)) (by decide +kernel) T.cl_Walks T.no_waiting) (oka_cons (ok_var (pv 4)) oka_nil)))))
 oks_nil))))
 (oks_cons (ok_sIf (okt_cmp op_Gt (ok_call (pe_callB (cl_lenD c) (by rfl) T.n_len (by decide +kernel) (oka_cons (ok_fld (Γ := Gm K w T) (cx := 0) (nm := [116, 101, 120, 116, 115]) (ok_var (pv 0)) (by decide +kernel) T.cl_Walks T.no_texts) oka_nil))) (ok_c (pe_glob (v := .int 300) (by rfl) T.k_MOST_SETS ⟨_, rfl⟩) fun _ _ => .int _) (by first | rfl | exact nomark _))
 (oks_one ok_no)
 oks_nil)
 (oks_one (ok_aug (ps_aug (i := 1) sc_Walks_grow.nd rfl (by first | exact Or.inl rfl | exact Or.inr rfl) ok_int ipo_add)))))))))
theorem ok_run_exactly (T : Tx K mg) : FnOk P w K mg base CX0 4 (T.a 18) (T.d 18) ["signs", "width", "part"] (spF (Gm K w T) F_run_exactly) := by
  refine ok_fn (Γ := Gm K w T) (k := 3) T.f_run_exactly sc_run_exactly rfl rfl fun cdv A outer s H E hr => ?_
  have c : Cc (Gm K w T) (cxOf CX0 P w K mg base N_run_exactly "run_exactly" (defScope s_run_exactly) (T.a 18) cdv A outer s H E).nox := ⟨rfl, rfl, rfl, by have := hr.un; show (A.deeper _).units + 200 < cLine; omega⟩
  exact (oks_cons (ok_ex (ok_callF (pe_call ((ok_check_signs T).imp frm_sp) (hr.mono (by decide)) (by rfl) T.m_check_signs T.f_check_signs.kp T.b_check_signs .nil pass0 (oka_cons (ok_var (pv 0)) oka_nil))))
 (oks_cons (ok_ex (ok_callF (pe_call ((ok_check_width T).imp frm_sp) (hr.mono (by decide)) (by rfl) T.m_check_width T.f_check_width.kp T.b_check_width .nil pass0 (oka_cons (ok_var (pv 1)) oka_nil))))
 (oks_cons (ok_ex (ok_callF (pe_call ((ok_check_run T).imp frm_sp) (hr.mono (by decide)) (by rfl) T.m_check_run T.f_check_run.kp T.b_check_run .nil pass0 (oka_cons (ok_var (pv 0)) (oka_cons (ok_var (pv 2)) oka_nil)))))
 (oks_cons (ok_set (ps_set (i := 3) sc_run_exactly.nd rfl (by first | exact Or.inl rfl | exact Or.inr rfl) (ok_make (Γ := Gm K w T) (cx := 0) (pe_make T.mk_Walks (ok_WalksU_initU T) (hr.mono (by decide)) (by rfl) T.c_Walks T.b_WalksU_initU .nil pass0 (oka_cons (ok_var (pv 0)) (oka_cons (ok_var (pv 1)) (oka_cons (ok_var (pv 2)) oka_nil)))))) rfl)
 (oks_cons (ok_ex (ok_meth0 (Γ := Gm K w T) (cx := 0) (nm := [103, 114, 111, 119]) (by decide +kernel) (pe_meth0 (ok_var (pv 3)) T.cl_Walks T.me_Walks_grow (ok_Walks_grow T) (hr.mono (by decide)) T.b_Walks_grow .nil pass0)))
 (oks_cons (ok_set (ps_set (i := 4) sc_run_exactly.nd rfl (by first | exact Or.inl rfl | exact Or.inr rfl) (ok_d0N c)) rfl)
 (oks_cons (ok_forL (k := 100000) c PassesOwn.never (ok_fld (Γ := Gm K w T) (cx := 0) (nm := [119, 97, 105, 116, 105, 110, 103]) (ok_var (pv 3)) (by decide +kernel) T.cl_Walks T.no_waiting) (okg_nm (pg_name (i := 5) sc_run_exactly.nd rfl (by first | exact Or.inl rfl | exact Or.inr rfl)))
 (oks_one (ok_put c (ok_ks c (ok_ixD c (ok_var (pv 5)) ok_int) (ok_ixD c (ok_fld (Γ := Gm K w T) (cx := 0) (nm := [116, 101, 120, 116, 115]) (ok_var (pv 3)) (by decide +kernel) T.cl_Walks T.no_texts) (ok_var (pv 5))) (ok_m c (k := 5) (.inr (.inr rfl)) PySem.F.plainAttrs_dict PySem.F.slot_dict_get PySem.F.type_dict_get (mt_get2 c) (ok_var (pv 4)) (oka_cons (ok_ixD c (ok_var (pv 5)) ok_int) (oka_cons (ok_d0 c) oka_nil)))) (ok_var (pv 4)) (ok_ixD c (ok_var (pv 5)) ok_int))))
 (oks_cons (ok_for c PassesOwn.never (pi_any c (ok_call (pe_callB (cr_sortedP c) (by rfl) T.n_sorted (by decide +kernel) (oka_cons (ok_var (pv 4)) oka_nil)))) (okg_nm (pg_name (i := 6) sc_run_exactly.nd rfl (by first | exact Or.inl rfl | exact Or.inr rfl)))
 (oks_one (ok_sIf (okt_cmp (op_Eq c) (ok_call (pe_callB (cl_lenD c) (by rfl) T.n_len (by decide +kernel) (oka_cons (ok_ixD c (ok_var (pv 4)) (ok_var (pv 6))) oka_nil))) ok_int (by first | rfl | exact nomark _))
 (oks_one (ok_ret (ok_tup (oka_cons (ok_str (c := [97, 112, 97, 114, 116]) (by decide +kernel)) (oka_cons (ok_ixD c (ok_ixD c (ok_var (pv 4)) (ok_var (pv 6))) ok_bl) (oka_cons (ok_ixD c (ok_ixD c (ok_var (pv 4)) (ok_var (pv 6))) ok_bl) oka_nil))))))
 oks_nil)))
 (oks_one (ok_ret (ok_tup (oka_cons (ok_str (c := [101, 120, 97, 99, 116]) (by decide +kernel)) (oka_cons (ok_dc (own := [6]) (t := (.nm 6)) (pe_dcP (own := [("runs", 6)]) c sc_run_exactly.nd (pi_any c (ok_call (pe_callB (cr_sortedP c) (by rfl) T.n_sorted (by decide +kernel) (oka_cons (ok_var (pv 4)) oka_nil)))) (blkOk_by (own := [("runs", 6)]) (N := N_run_exactly) (sc := defScope s_run_exactly) (by decide +kernel)) (fun _ _ _ _ _ => (okg_nm (pg_name (i := 6) sc_run_exactly.nd rfl (by first | exact Or.inl rfl | exact Or.inr rfl)))) (fun _ _ _ _ _ => okts_nil) (fun _ _ _ _ _ => (ok_var (pv 6))) (fun _ _ _ _ _ => (ok_ixD (Cc.blk c) (ok_call (pe_callTy (cl_list (Cc.blk c)) (by rfl) T.n_list (by decide +kernel) (oka_cons (ok_ixD (Cc.blk c) (ok_var (pv 4)) (ok_var (pv 6))) oka_nil))) ok_int))) (by simp [Tg.slots, Tg.slotss])) oka_nil)))))))))))))
theorem ok_run_exactly_holds (T : Tx K mg) : FnOk P w K mg base CX0 5 (T.a 19) (T.d 19) ["signs", "width", "part", "told"] (spF (Gm K w T) F_run_exactly_holds) := by
  refine ok_fn (Γ := Gm K w T) (k := 4) T.f_run_exactly_holds sc_run_exactly_holds rfl rfl fun cdv A outer s H E hr => ?_
  have c : Cc (Gm K w T) (cxOf CX0 P w K mg base N_run_exactly_holds "run_exactly_holds" (defScope s_run_exactly_holds) (T.a 19) cdv A outer s H E).nox := ⟨rfl, rfl, rfl, by have := hr.un; show (A.deeper _).units + 200 < cLine; omega⟩
  exact (oks_cons (ok_set (ps_set (i := 4) sc_run_exactly_holds.nd rfl (by first | exact Or.inl rfl | exact Or.inr rfl) (ok_callF (pe_call ((ok_run_exactly T).imp frm_sp) (hr.mono (by decide)) (by rfl) T.m_run_exactly T.f_run_exactly.kp T.b_run_exactly .nil pass0 (oka_cons (ok_var (pv 0)) (oka_cons (ok_var (pv 1)) (oka_cons (ok_var (pv 2)) oka_nil)))))) rfl)
 (oks_cons (ok_sIf (PW.pt (okw_or (okt_not (okt_val (ok_call (pe_callB (cl_isi c) (by rfl) T.n_isinstance (by decide +kernel) (oka_cons (ok_var (pv 3)) (oka_cons (ok_c (pe_bltn (v := .ty "tuple") (u := .type "tuple") (by rfl) T.n_tuple (by decide +kernel) rfl) fun _ _ => .ty 3) oka_nil)))))) (okw_or (okt_cmp (op_NotIn' c) (ok_call (pe_callB (cl_lenD c) (by rfl) T.n_len (by decide +kernel) (oka_cons (ok_var (pv 3)) oka_nil))) (ok_tup (oka_cons ok_int (oka_cons ok_int oka_nil))) (by first | rfl | exact nomark _)) (okw_or1 (okt_cmp (op_NotIn' c) (ok_ixD c (ok_var (pv 3)) ok_int) (ok_tup (oka_cons (ok_str (c := [101, 120, 97, 99, 116]) (by decide +kernel)) (oka_cons (ok_str (c := [97, 112, 97, 114, 116]) (by decide +kernel)) oka_nil))) (by first | rfl | exact nomark _))))))
 (oks_one (ok_ret ok_bl))
 oks_nil)
 (oks_cons (ok_sIf (okt_cmp (op_Eq c) (ok_ixD c (ok_var (pv 3)) ok_int) (ok_str (c := [101, 120, 97, 99, 116]) (by decide +kernel)) (by first | rfl | exact nomark _))
 (oks_one (ok_ret (ok_and (ok_cmp (op_Eq c) (ok_var (pv 4)) (ok_var (pv 3)) (by first | rfl | exact nomark _)) (ok_one (ok_call (pe_callB (cl_all c) (by rfl) T.n_all (by decide +kernel) (oka_cons (ok_lc (own := [7]) (t := (.nm 7)) (pe_lc (own := [("one", 7)]) rfl sc_run_exactly_holds.nd (pi_valsF (ok_ixD c (ok_var (pv 3)) ok_int)) (blkOk_by (own := [("one", 7)]) (N := N_run_exactly_holds) (sc := defScope s_run_exactly_holds) (by decide +kernel)) (fun _ _ _ _ _ => (okg_nm (pg_name (i := 7) sc_run_exactly_holds.nd rfl (by first | exact Or.inl rfl | exact Or.inr rfl)))) (fun _ _ _ _ _ => okts_nil) (fun _ _ _ _ _ => (ok_call (pe_callB (cl_isi (Cc.blk c)) (by rfl) T.n_isinstance (by decide +kernel) (oka_cons (ok_var (pv 7)) (oka_cons (ok_c (pe_bltn (v := .ty "bool") (u := .type "bool") (by rfl) T.n_bool (by decide +kernel) rfl) fun _ _ => .ty 1) oka_nil)))))) (by simp [Tg.slots, Tg.slotss])) oka_nil)))))))
 oks_nil)
 (oks_cons (ok_sIf (PW.pt (okw_or (okt_cmp (op_Ne c) (ok_call (pe_callB (cl_lenD c) (by rfl) T.n_len (by decide +kernel) (oka_cons (ok_var (pv 3)) oka_nil))) ok_int (by first | rfl | exact nomark _)) (okw_or1 (okt_not (okt_val (ok_call (pe_callB (cl_all c) (by rfl) T.n_all (by decide +kernel) (oka_cons (ok_lc (own := [5]) (t := (.nm 5)) (pe_lc (own := [("text", 5)]) rfl sc_run_exactly_holds.nd (pi_any c (ok_sl c (ok_var (pv 3)) (okp_some ok_int) okp_none)) (blkOk_by (own := [("text", 5)]) (N := N_run_exactly_holds) (sc := defScope s_run_exactly_holds) (by decide +kernel)) (fun _ _ _ _ _ => (okg_nm (pg_name (i := 5) sc_run_exactly_holds.nd rfl (by first | exact Or.inl rfl | exact Or.inr rfl)))) (fun _ _ _ _ _ => okts_nil) (fun _ _ _ _ _ => (ok_and (ok_call (pe_callB (cl_isi (Cc.blk c)) (by rfl) T.n_isinstance (by decide +kernel) (oka_cons (ok_var (pv 5)) (oka_cons (ok_c (pe_bltn (v := .ty "str") (u := .type "str") (by rfl) T.n_str (by decide +kernel) rfl) fun _ _ => .ty 2) oka_nil)))) (ok_one (ok_cmp op_Le (ok_call (pe_callB (cl_lenD (Cc.blk c)) (by rfl) T.n_len (by decide +kernel) (oka_cons (ok_var (pv 5)) oka_nil))) ok_int (by first | rfl | exact nomark _)))))) (by simp [Tg.slots, Tg.slotss])) oka_nil))))))))
 (oks_one (ok_ret ok_bl))
 oks_nil)
 (oks_cons (ok_sIf (okt_not (okt_val (ok_call (pe_callB (cl_all c) (by rfl) T.n_all (by decide +kernel) (oka_cons (ok_lc2 (own := [5, 6]) (own1 := [6]) (t := (.nm 5)) (t1 := (.nm 6)) (pe_lc2 (own := [("text", 5), ("sign", 6)]) (vs1 := [6]) rfl sc_run_exactly_holds.nd (pi_any c (ok_sl c (ok_var (pv 3)) (okp_some ok_int) okp_none)) (blkOk_by (own := [("text", 5), ("sign", 6)]) (N := N_run_exactly_holds) (sc := defScope s_run_exactly_holds) (by decide +kernel)) (by simp) (fun _ _ _ _ _ => (okg_nm (pg_name (i := 5) sc_run_exactly_holds.nd rfl (by first | exact Or.inl rfl | exact Or.inr rfl)))) (fun _ _ _ _ _ => okts_nil) (fun _ _ _ _ _ => (pi_any (Cc.blk c) (ok_var (pv 5)))) (fun _ _ _ _ _ => (okg_nm (pg_name (i := 6) sc_run_exactly_holds.nd rfl (by first | exact Or.inl rfl | exact Or.inr rfl)))) (fun _ _ _ _ _ => okts_nil) (fun _ _ _ _ _ => (ok_cmp (op_In' (Cc.blk c)) (ok_var (pv 6)) (ok_var (pv 0)) (by first | rfl | exact nomark _)))) (by simp [Tg.slots, Tg.slotss]) (by simp [Tg.slots, Tg.slotss])) oka_nil)))))
 (oks_one (ok_ret ok_bl))
 oks_nil)
 (oks_one (ok_ret (ok_and (ok_cmp (op_Eq c) (ok_callF (pe_call ((ok_runs_of T).imp frm_sp) (hr.mono (by decide)) (by rfl) T.m_runs_of T.f_runs_of.kp T.b_runs_of .nil pass0 (oka_cons (ok_var (pv 0)) (oka_cons (ok_ixD c (ok_var (pv 3)) ok_int) (oka_cons (ok_var (pv 1)) oka_nil))))) (ok_callF (pe_call ((ok_runs_of T).imp frm_sp) (hr.mono (by decide)) (by rfl) T.m_runs_of T.f_runs_of.kp T.b_runs_of .nil pass0 (oka_cons (ok_var (pv 0)) (oka_cons (ok_ixD c (ok_var (pv 3)) ok_int) (oka_cons (ok_var (pv 1)) oka_nil))))) (by first | rfl | exact nomark _)) (ok_and (ok_cmp (op_NotIn' c) (ok_var (pv 2)) (ok_ixD c (ok_var (pv 3)) ok_int) (by first | rfl | exact nomark _)) (ok_one (ok_cmp (op_In' c) (ok_var (pv 2)) (ok_ixD c (ok_var (pv 3)) ok_int) (by first | rfl | exact nomark _))))))))))))
theorem ok_law (T : Tx K mg) : FnOk P w K mg base CX0 7 (T.a 20) (T.d 20) ["script"] (spF (Gm K w T) F_law) := by
  refine ok_fn (Γ := Gm K w T) (k := 6) T.f_law sc_law rfl rfl fun cdv A outer s H E hr => ?_
  have c : Cc (Gm K w T) (cxOf CX0 P w K mg base N_law "law" (defScope s_law) (T.a 20) cdv A outer s H E).nox := ⟨rfl, rfl, rfl, by have := hr.un; show (A.deeper _).units + 200 < cLine; omega⟩
  exact (oks_cons (ok_set (ps_set (i := 1) sc_law.nd rfl (by first | exact Or.inl rfl | exact Or.inr rfl) (ok_new (oka_cons (ok_sl c (ok_var (pv 0)) okp_none (okp_some ok_int)) (oka_cons ok_int (oka_cons ok_int oka_nil))))) rfl)
 (oks_cons (ok_set (ps_set (i := 2) sc_law.nd rfl (by first | exact Or.inl rfl | exact Or.inr rfl) (ok_call (pe_callTy (cl_tuple c) (by rfl) T.n_tuple (by decide +kernel) (oka_cons (ok_lc (own := [12]) (t := (.nm 12)) (pe_lc (own := [("turn", 12)]) rfl sc_law.nd (pi_r1 (pi_range1 (by rfl) T.n_range (oka_cons (ok_bin (op_Add c) ok_int (ok_callF (pe_call (ok__law_next T) (hr.mono (by decide)) (by rfl) T.m__law_next T.f__law_next.kp T.b__law_next .nil pass0 (oka_cons (ok_var (pv 1)) (oka_cons ok_int oka_nil))))) oka_nil))) (blkOk_by (own := [("turn", 12)]) (N := N_law) (sc := defScope s_law) (by decide +kernel)) (fun _ _ _ _ _ => (okg_nm (pg_name (i := 12) sc_law.nd rfl (by first | exact Or.inl rfl | exact Or.inr rfl)))) (fun _ _ _ _ _ => okts_nil) (fun _ _ _ _ _ => (ok_m (Cc.blk c) (k := 2) (.inl rfl) PySem.F.plainAttrs_str PySem.F.slot_str_join PySem.F.type_str_join (mt_joinP (Cc.blk c)) (ok_str (c := []) (by decide +kernel)) (oka_cons (ok_lc (own := [22]) (t := (.nm 22)) (pe_lc (own := [("step", 22)]) rfl sc_law.nd (pi_r1 (pi_range1 (by rfl) T.n_range (oka_cons (ok_callF (pe_call (ok__law_next T) (hr.mono (by decide)) (by rfl) T.m__law_next T.f__law_next.kp T.b__law_next .nil pass0 (oka_cons (ok_var (pv 1)) (oka_cons ok_int oka_nil)))) oka_nil))) (blkOk_by (own := [("step", 22)]) (by rfl)) (fun _ _ _ _ _ => (okg_nm (pg_name (i := 22) sc_law.nd rfl (by first | exact Or.inl rfl | exact Or.inr rfl)))) (fun _ _ _ _ _ => okts_nil) (fun _ _ _ _ _ => (ok_callF (pe_call (ok__law_pick T) (hr.mono (by decide)) (by rfl) T.m__law_pick T.f__law_pick.kp T.b__law_pick .nil pass0 (oka_cons (ok_var (pv 1)) (oka_cons (ok_lst (oka_cons (ok_str (c := [97]) (by decide +kernel)) (oka_cons (ok_str (c := [98]) (by decide +kernel)) oka_nil))) oka_nil)))))) (by simp [Tg.slots, Tg.slotss])) oka_nil)))) (by simp [Tg.slots, Tg.slotss])) oka_nil)))) rfl)
 (oks_cons (ok_set (ps_set (i := 3) sc_law.nd rfl (by first | exact Or.inl rfl | exact Or.inr rfl) (ok_m c (k := 2) (.inl rfl) PySem.F.plainAttrs_str PySem.F.slot_str_join PySem.F.type_str_join (mt_joinP c) (ok_str (c := []) (by decide +kernel)) (oka_cons (ok_lc (own := [12]) (t := (.nm 12)) (pe_lc (own := [("turn", 12)]) rfl sc_law.nd (pi_r1 (pi_range1 (by rfl) T.n_range (oka_cons (ok_callF (pe_call (ok__law_next T) (hr.mono (by decide)) (by rfl) T.m__law_next T.f__law_next.kp T.b__law_next .nil pass0 (oka_cons (ok_var (pv 1)) (oka_cons ok_int oka_nil)))) oka_nil))) (blkOk_by (own := [("turn", 12)]) (N := N_law) (sc := defScope s_law) (by decide +kernel)) (fun _ _ _ _ _ => (okg_nm (pg_name (i := 12) sc_law.nd rfl (by first | exact Or.inl rfl | exact Or.inr rfl)))) (fun _ _ _ _ _ => okts_nil) (fun _ _ _ _ _ => (ok_callF (pe_call (ok__law_pick T) (hr.mono (by decide)) (by rfl) T.m__law_pick T.f__law_pick.kp T.b__law_pick .nil pass0 (oka_cons (ok_var (pv 1)) (oka_cons (ok_lst (oka_cons (ok_str (c := [97]) (by decide +kernel)) (oka_cons (ok_str (c := [98]) (by decide +kernel)) oka_nil))) oka_nil)))))) (by simp [Tg.slots, Tg.slotss])) oka_nil))) rfl)
 (oks_cons (ok_set (ps_set (i := 4) sc_law.nd rfl (by first | exact Or.inl rfl | exact Or.inr rfl) (ok_call (pe_callTy (cl_tuple c) (by rfl) T.n_tuple (by decide +kernel) (oka_cons (ok_lc (own := [15, 16]) (t := (.tp [(.nm 15), (.nm 16)])) (pe_lc (own := [("number", 15), ("text", 16)]) rfl sc_law.nd (pi_enumF c (by rfl) T.n_enumerate (oka_cons (ok_var (pv 2)) oka_nil)) (blkOk_by (own := [("number", 15), ("text", 16)]) (N := N_law) (sc := defScope s_law) (by decide +kernel)) (fun _ _ _ _ _ => (okg_tp (Cc.blk c) (okgs_cons (okg_nm (pg_name (i := 15) sc_law.nd rfl (by first | exact Or.inl rfl | exact Or.inr rfl))) (okgs_cons (okg_nm (pg_name (i := 16) sc_law.nd rfl (by first | exact Or.inl rfl | exact Or.inr rfl))) okgs_nil)))) (fun _ _ _ _ _ => (pts_one (okt_cmp (op_In' (Cc.blk c)) (ok_var (pv 3)) (ok_var (pv 16)) (by first | rfl | exact nomark _)))) (fun _ _ _ _ _ => (ok_var (pv 15)))) (by simp [Tg.slots, Tg.slotss])) oka_nil)))) rfl)
 (oks_cons (ok_set (ps_set (i := 5) sc_law.nd rfl (by first | exact Or.inl rfl | exact Or.inr rfl) ok_non) rfl)
 (oks_cons (ok_for c PassesOwn.never (pi_r2 (pi_range2 (by rfl) T.n_range (oka_cons ok_int (oka_cons ok_int oka_nil)))) (okg_nm (pg_name (i := 6) sc_law.nd rfl (by first | exact Or.inl rfl | exact Or.inr rfl)))
 (oks_cons (ok_set (ps_set (i := 9) sc_law.nd rfl (by first | exact Or.inl rfl | exact Or.inr rfl) (ok_callF (pe_call ((ok_run_postings T).imp frm_sp) (hr.mono (by decide)) (by rfl) T.m_run_postings T.f_run_postings.kp T.b_run_postings .nil pass0 (oka_cons (ok_str (c := [97, 98]) (by decide +kernel)) (oka_cons (ok_var (pv 2)) (oka_cons (ok_var (pv 6)) oka_nil)))))) rfl)
 (oks_cons (ok_asg (ok_callF (pe_call ((ok_search T).imp frm_sp) (hr.mono (by decide)) (by rfl) T.m_search T.f_search.kp T.b_search .nil pass0 (oka_cons (ok_str (c := [97, 98]) (by decide +kernel)) (oka_cons (ok_var (pv 2)) (oka_cons (ok_var (pv 6)) (oka_cons (ok_var (pv 3)) oka_nil)))))) (okg_tp c (okgs_cons (okg_nm (pg_name (i := 13) sc_law.nd rfl (by first | exact Or.inl rfl | exact Or.inr rfl))) (okgs_cons (okg_nm (pg_name (i := 14) sc_law.nd rfl (by first | exact Or.inl rfl | exact Or.inr rfl))) okgs_nil))))
 (oks_cons (ok_set (ps_set (i := 10) sc_law.nd rfl (by first | exact Or.inl rfl | exact Or.inr rfl) (ok_callF (pe_call ((ok_may_have T).imp frm_sp) (hr.mono (by decide)) (by rfl) T.m_may_have T.f_may_have.kp T.b_may_have .nil pass0 (oka_cons (ok_str (c := [97, 98]) (by decide +kernel)) (oka_cons (ok_var (pv 9)) (oka_cons (ok_var (pv 6)) (oka_cons (ok_call (pe_callB (cl_lenD c) (by rfl) T.n_len (by decide +kernel) (oka_cons (ok_var (pv 2)) oka_nil))) (oka_cons (ok_var (pv 3)) oka_nil)))))))) rfl)
 (oks_cons (ok_sIf (PW.pt (okw_or (okt_cmp (op_Ne c) (ok_var (pv 13)) (ok_var (pv 4)) (by first | rfl | exact nomark _)) (okw_or (okt_cmp (op_Ne c) (ok_var (pv 14)) (ok_call (pe_callB (cl_lenD c) (by rfl) T.n_len (by decide +kernel) (oka_cons (ok_var (pv 10)) oka_nil))) (by first | rfl | exact nomark _)) (okw_or1 (okt_val (ok_call (pe_callB (cl_any c) (by rfl) T.n_any (by decide +kernel) (oka_cons (ok_lc (own := [15]) (t := (.nm 15)) (pe_lc (own := [("number", 15)]) rfl sc_law.nd (pi_any c (ok_var (pv 4))) (blkOk_by (own := [("number", 15)]) (N := N_law) (sc := defScope s_law) (by decide +kernel)) (fun _ _ _ _ _ => (okg_nm (pg_name (i := 15) sc_law.nd rfl (by first | exact Or.inl rfl | exact Or.inr rfl)))) (fun _ _ _ _ _ => okts_nil) (fun _ _ _ _ _ => (ok_cmp (op_NotIn' (Cc.blk c)) (ok_var (pv 15)) (ok_var (pv 10)) (by first | rfl | exact nomark _)))) (by simp [Tg.slots, Tg.slotss])) oka_nil))))))))
 (oks_one (ok_ret ok_bl))
 oks_nil)
 (oks_cons (ok_set (ps_set (i := 11) sc_law.nd rfl (by first | exact Or.inl rfl | exact Or.inr rfl) (ok_callF (pe_call ((ok_run_exactly T).imp frm_sp) (hr.mono (by decide)) (by rfl) T.m_run_exactly T.f_run_exactly.kp T.b_run_exactly .nil pass0 (oka_cons (ok_str (c := [97, 98]) (by decide +kernel)) (oka_cons (ok_var (pv 6)) (oka_cons (ok_var (pv 3)) oka_nil)))))) rfl)
 (oks_cons (ok_sIf (okt_cmp (op_Eq c) (ok_ixD c (ok_var (pv 11)) ok_int) (ok_str (c := [101, 120, 97, 99, 116]) (by decide +kernel)) (by first | rfl | exact nomark _))
 (oks_cons (ok_sIf (okt_cmp (op_Ne c) (ok_var (pv 4)) (ok_call (pe_callTy (cl_tuple c) (by rfl) T.n_tuple (by decide +kernel) (oka_cons (ok_lc (own := [15, 16]) (t := (.tp [(.nm 15), (.nm 16)])) (pe_lc (own := [("number", 15), ("text", 16)]) rfl sc_law.nd (pi_enumF c (by rfl) T.n_enumerate (oka_cons (ok_var (pv 2)) oka_nil)) (blkOk_by (own := [("number", 15), ("text", 16)]) (N := N_law) (sc := defScope s_law) (by decide +kernel)) (fun _ _ _ _ _ => (okg_tp (Cc.blk c) (okgs_cons (okg_nm (pg_name (i := 15) sc_law.nd rfl (by first | exact Or.inl rfl | exact Or.inr rfl))) (okgs_cons (okg_nm (pg_name (i := 16) sc_law.nd rfl (by first | exact Or.inl rfl | exact Or.inr rfl))) okgs_nil)))) (fun _ _ _ _ _ => (pts_one (okt_val (ok_ixD (Cc.blk c) (ok_ixD (Cc.blk c) (ok_var (pv 11)) ok_int) (ok_callF (pe_call ((ok_runs_of T).imp frm_sp) (hr.mono (by decide)) (by rfl) T.m_runs_of T.f_runs_of.kp T.b_runs_of .nil pass0 (oka_cons (ok_str (c := [97, 98]) (by decide +kernel)) (oka_cons (ok_var (pv 16)) (oka_cons (ok_var (pv 6)) oka_nil))))))))) (fun _ _ _ _ _ => (ok_var (pv 15)))) (by simp [Tg.slots, Tg.slotss])) oka_nil))) (by first | rfl | exact nomark _))
 (oks_one (ok_ret ok_bl))
 oks_nil)
 (oks_one (ok_sIf (PW.pt (okw_and (okt_cmp (op_Eq c) (ok_call (pe_callB (cl_lenD c) (by rfl) T.n_len (by decide +kernel) (oka_cons (ok_var (pv 3)) oka_nil))) (ok_var (pv 6)) (by first | rfl | exact nomark _)) (okw_and1 (okt_cmp (op_Ne c) (ok_var (pv 10)) (ok_var (pv 4)) (by first | rfl | exact nomark _)))))
 (oks_one (ok_ret ok_bl))
 oks_nil)))
 (oks_one (ok_sIf (PW.pt (okw_or (okt_cmp (op_Eq c) (ok_call (pe_callB (cl_lenD c) (by rfl) T.n_len (by decide +kernel) (oka_cons (ok_var (pv 3)) oka_nil))) (ok_var (pv 6)) (by first | rfl | exact nomark _)) (okw_or1 (okt_cmp (op_Eq c) (ok_var (pv 3)) (ok_str (c := []) (by decide +kernel)) (by first | rfl | exact nomark _)))))
 (oks_one (ok_ret ok_bl))
 oks_nil)))
 (oks_cons (ok_sIf (PW.pt (okw_and (okt_cmp op_Ge (ok_call (pe_callB (cl_lenD c) (by rfl) T.n_len (by decide +kernel) (oka_cons (ok_var (pv 3)) oka_nil))) (ok_var (pv 6)) (by first | rfl | exact nomark _)) (okw_and (okt_cmp op_NotN (ok_var (pv 5)) ok_non (by first | rfl | exact nomark _)) (okw_and (okt_cmp op_Ge (ok_call (pe_callB (cl_lenD c) (by rfl) T.n_len (by decide +kernel) (oka_cons (ok_var (pv 3)) oka_nil))) (ok_var (pv 6)) (by first | rfl | exact nomark _)) (okw_and1 (okt_val (ok_call (pe_callB (cl_any c) (by rfl) T.n_any (by decide +kernel) (oka_cons (ok_lc (own := [15]) (t := (.nm 15)) (pe_lc (own := [("number", 15)]) rfl sc_law.nd (pi_any c (ok_var (pv 10))) (blkOk_by (own := [("number", 15)]) (N := N_law) (sc := defScope s_law) (by decide +kernel)) (fun _ _ _ _ _ => (okg_nm (pg_name (i := 15) sc_law.nd rfl (by first | exact Or.inl rfl | exact Or.inr rfl)))) (fun _ _ _ _ _ => okts_nil) (fun _ _ _ _ _ => (ok_cmp (op_NotIn' (Cc.blk c)) (ok_var (pv 15)) (ok_var (pv 5)) (by first | rfl | exact nomark _)))) (by simp [Tg.slots, Tg.slotss])) oka_nil)))))))))
 (oks_one (ok_ret ok_bl))
 oks_nil)
 (oks_cons (ok_set (ps_set (i := 5) sc_law.nd rfl (by first | exact Or.inl rfl | exact Or.inr rfl) (ok_if (okt_cmp op_Ge (ok_call (pe_callB (cl_lenD c) (by rfl) T.n_len (by decide +kernel) (oka_cons (ok_var (pv 3)) oka_nil))) (ok_var (pv 6)) (by first | rfl | exact nomark _)) (ok_var (pv 10)) ok_non)) rfl)
 (oks_cons (ok_for c PassesOwn.never (pi_enumF c (by rfl) T.n_enumerate (oka_cons (ok_var (pv 2)) oka_nil)) (okg_tp c (okgs_cons (okg_nm (pg_name (i := 15) sc_law.nd rfl (by first | exact Or.inl rfl | exact Or.inr rfl))) (okgs_cons (okg_nm (pg_name (i := 16) sc_law.nd rfl (by first | exact Or.inl rfl | exact Or.inr rfl))) okgs_nil)))
 (oks_cons (ok_set (ps_set (i := 17) sc_law.nd rfl (by first | exact Or.inl rfl | exact Or.inr rfl) (ok_callF (pe_call ((ok_runs_of T).imp frm_sp) (hr.mono (by decide)) (by rfl) T.m_runs_of T.f_runs_of.kp T.b_runs_of .nil pass0 (oka_cons (ok_str (c := [97, 98]) (by decide +kernel)) (oka_cons (ok_var (pv 16)) (oka_cons (ok_var (pv 6)) oka_nil)))))) rfl)
 (oks_cons (ok_sIf (PW.pt (okw_or (okt_val (ok_call (pe_callB (cl_any c) (by rfl) T.n_any (by decide +kernel) (oka_cons (ok_lc (own := [23]) (t := (.nm 23)) (pe_lc (own := [("run", 23)]) rfl sc_law.nd (pi_any c (ok_var (pv 17))) (blkOk_by (own := [("run", 23)]) (N := N_law) (sc := defScope s_law) (by decide +kernel)) (fun _ _ _ _ _ => (okg_nm (pg_name (i := 23) sc_law.nd rfl (by first | exact Or.inl rfl | exact Or.inr rfl)))) (fun _ _ _ _ _ => okts_nil) (fun _ _ _ _ _ => (ok_cmp (op_NotIn' (Cc.blk c)) (ok_var (pv 15)) (ok_ixD (Cc.blk c) (ok_var (pv 9)) (ok_var (pv 23))) (by first | rfl | exact nomark _)))) (by simp [Tg.slots, Tg.slotss])) oka_nil)))) (okw_or (okt_cmp op_Gt (ok_call (pe_callB (cl_lenD c) (by rfl) T.n_len (by decide +kernel) (oka_cons (ok_var (pv 17)) oka_nil))) (ok_bin op_Mul ok_int (ok_var (pv 6))) (by first | rfl | exact nomark _)) (okw_or (okt_cmp (op_Ne c) (ok_call (pe_callTy (cl_list c) (by rfl) T.n_list (by decide +kernel) (oka_cons (ok_var (pv 17)) oka_nil))) (ok_call (pe_callB (cr_sortedP c) (by rfl) T.n_sorted (by decide +kernel) (oka_cons (ok_var (pv 17)) oka_nil))) (by first | rfl | exact nomark _)) (okw_or1 (PW.pt (okw_and (okt_cmp op_Lt (ok_call (pe_callB (cl_lenD c) (by rfl) T.n_len (by decide +kernel) (oka_cons (ok_var (pv 16)) oka_nil))) (ok_var (pv 6)) (by first | rfl | exact nomark _)) (okw_and1 (okt_cmp (op_Ne c) (ok_var (pv 17)) (ok_tup oka_nil) (by first | rfl | exact nomark _))))))))))
 (oks_one (ok_ret ok_bl))
 oks_nil)
 (oks_cons (ok_sIf (okt_val (ok_call (pe_callB (cl_any c) (by rfl) T.n_any (by decide +kernel) (oka_cons (ok_lc (own := [23]) (t := (.nm 23)) (pe_lc (own := [("run", 23)]) rfl sc_law.nd (pi_any c (ok_callF (pe_call ((ok_runs_of T).imp frm_sp) (hr.mono (by decide)) (by rfl) T.m_runs_of T.f_runs_of.kp T.b_runs_of .nil pass0 (oka_cons (ok_str (c := [97, 98]) (by decide +kernel)) (oka_cons (ok_sl c (ok_var (pv 16)) (okp_some ok_int) okp_none) (oka_cons (ok_var (pv 6)) oka_nil)))))) (blkOk_by (own := [("run", 23)]) (N := N_law) (sc := defScope s_law) (by decide +kernel)) (fun _ _ _ _ _ => (okg_nm (pg_name (i := 23) sc_law.nd rfl (by first | exact Or.inl rfl | exact Or.inr rfl)))) (fun _ _ _ _ _ => okts_nil) (fun _ _ _ _ _ => (ok_cmp (op_NotIn' (Cc.blk c)) (ok_var (pv 23)) (ok_var (pv 17)) (by first | rfl | exact nomark _)))) (by simp [Tg.slots, Tg.slotss])) oka_nil))))
 (oks_one (ok_ret ok_bl))
 oks_nil)
 (oks_cons (ok_set (ps_set (i := 18) sc_law.nd rfl (by first | exact Or.inl rfl | exact Or.inr rfl) (ok_m c (k := 2) (.inl rfl) PySem.F.plainAttrs_str PySem.F.slot_str_join PySem.F.type_str_join (mt_joinP c) (ok_str (c := []) (by decide +kernel)) (oka_cons (ok_lc (own := [24]) (t := (.nm 24)) (pe_lc (own := [("sign", 24)]) rfl sc_law.nd (pi_any c (ok_var (pv 16))) (blkOk_by (own := [("sign", 24)]) (N := N_law) (sc := defScope s_law) (by decide +kernel)) (fun _ _ _ _ _ => (okg_nm (pg_name (i := 24) sc_law.nd rfl (by first | exact Or.inl rfl | exact Or.inr rfl)))) (fun _ _ _ _ _ => okts_nil) (fun _ _ _ _ _ => (ok_if (okt_cmp (op_Eq (Cc.blk c)) (ok_var (pv 24)) (ok_str (c := [97]) (by decide +kernel)) (by first | rfl | exact nomark _)) (ok_str (c := [98]) (by decide +kernel)) (ok_str (c := [97]) (by decide +kernel))))) (by simp [Tg.slots, Tg.slotss])) oka_nil))) rfl)
 (oks_one (ok_sIf (okt_cmp (op_Ne c) (ok_call (pe_callB (cl_lenD c) (by rfl) T.n_len (by decide +kernel) (oka_cons (ok_callF (pe_call ((ok_runs_of T).imp frm_sp) (hr.mono (by decide)) (by rfl) T.m_runs_of T.f_runs_of.kp T.b_runs_of .nil pass0 (oka_cons (ok_str (c := [97, 98]) (by decide +kernel)) (oka_cons (ok_var (pv 18)) (oka_cons (ok_var (pv 6)) oka_nil))))) oka_nil))) (ok_call (pe_callB (cl_lenD c) (by rfl) T.n_len (by decide +kernel) (oka_cons (ok_var (pv 17)) oka_nil))) (by first | rfl | exact nomark _))
 (oks_one (ok_ret ok_bl))
 oks_nil)))))))
 (oks_cons (ok_for c PassesOwn.never (pi_r1 (pi_range1 (by rfl) T.n_range (oka_cons ok_int oka_nil))) (okg_nm (pg_name (i := 12) sc_law.nd rfl (by first | exact Or.inl rfl | exact Or.inr rfl)))
 (oks_cons (ok_par (ps_par (i := 20) (j := 21) rfl sc_law.nd rfl rfl (by decide) rfl rfl (oka_cons (ok_callF (pe_call (ok__law_pick T) (hr.mono (by decide)) (by rfl) T.m__law_pick T.f__law_pick.kp T.b__law_pick .nil pass0 (oka_cons (ok_var (pv 1)) (oka_cons (ok_call (pe_callTy (cl_list c) (by rfl) T.n_list (by decide +kernel) (oka_cons (ok_var (pv 2)) oka_nil))) oka_nil)))) (oka_cons (ok_callF (pe_call (ok__law_pick T) (hr.mono (by decide)) (by rfl) T.m__law_pick T.f__law_pick.kp T.b__law_pick .nil pass0 (oka_cons (ok_var (pv 1)) (oka_cons (ok_call (pe_callTy (cl_list c) (by rfl) T.n_list (by decide +kernel) (oka_cons (ok_var (pv 2)) oka_nil))) oka_nil)))) oka_nil)) (by rfl)))
 (oks_cons (ok_set (ps_set (i := 19) sc_law.nd rfl (by first | exact Or.inl rfl | exact Or.inr rfl) (ok_cmp (op_Eq c) (ok_callF (pe_call ((ok_runs_of T).imp frm_sp) (hr.mono (by decide)) (by rfl) T.m_runs_of T.f_runs_of.kp T.b_runs_of .nil pass0 (oka_cons (ok_str (c := [97, 98]) (by decide +kernel)) (oka_cons (ok_var (pv 20)) (oka_cons (ok_var (pv 6)) oka_nil))))) (ok_callF (pe_call ((ok_runs_of T).imp frm_sp) (hr.mono (by decide)) (by rfl) T.m_runs_of T.f_runs_of.kp T.b_runs_of .nil pass0 (oka_cons (ok_str (c := [97, 98]) (by decide +kernel)) (oka_cons (ok_var (pv 21)) (oka_cons (ok_var (pv 6)) oka_nil))))) (by first | rfl | exact nomark _))) rfl)
 (oks_cons (ok_sIf (okt_cmp (op_Ne c) (ok_callF (pe_call ((ok_run_exactly_holds T).imp frm_sp) (hr.mono (by decide)) (by rfl) T.m_run_exactly_holds T.f_run_exactly_holds.kp T.b_run_exactly_holds .nil pass0 (oka_cons (ok_str (c := [97, 98]) (by decide +kernel)) (oka_cons (ok_var (pv 6)) (oka_cons (ok_var (pv 3)) (oka_cons (ok_tup (oka_cons (ok_str (c := [97, 112, 97, 114, 116]) (by decide +kernel)) (oka_cons (ok_var (pv 20)) (oka_cons (ok_var (pv 21)) oka_nil)))) oka_nil)))))) (ok_and (ok_var (pv 19)) (ok_and (ok_cmp (op_NotIn' c) (ok_var (pv 3)) (ok_var (pv 20)) (by first | rfl | exact nomark _)) (ok_one (ok_cmp (op_In' c) (ok_var (pv 3)) (ok_var (pv 21)) (by first | rfl | exact nomark _))))) (by first | rfl | exact nomark _))
 (oks_one (ok_ret ok_bl))
 oks_nil)
 (oks_one (ok_sIf (PW.pt (okw_and (okt_cmp (op_Eq c) (ok_ixD c (ok_var (pv 11)) ok_int) (ok_str (c := [101, 120, 97, 99, 116]) (by decide +kernel)) (by first | rfl | exact nomark _)) (okw_and (okt_val (ok_var (pv 19))) (okw_and1 (okt_cmp (op_Ne c) (ok_cmp (op_In' c) (ok_var (pv 3)) (ok_var (pv 20)) (by first | rfl | exact nomark _)) (ok_cmp (op_In' c) (ok_var (pv 3)) (ok_var (pv 21)) (by first | rfl | exact nomark _)) (by first | rfl | exact nomark _))))))
 (oks_one (ok_ret ok_bl))
 oks_nil))))))
 (oks_cons (ok_sIf (PW.pt (okw_or (okt_cmp (op_Ne c) (ok_callF (pe_call ((ok_may_have T).imp frm_sp) (hr.mono (by decide)) (by rfl) T.m_may_have T.f_may_have.kp T.b_may_have .nil pass0 (oka_cons (ok_str (c := [97, 98]) (by decide +kernel)) (oka_cons (ok_var (pv 9)) (oka_cons (ok_var (pv 6)) (oka_cons (ok_call (pe_callB (cl_lenD c) (by rfl) T.n_len (by decide +kernel) (oka_cons (ok_var (pv 2)) oka_nil))) (oka_cons (ok_str (c := []) (by decide +kernel)) oka_nil))))))) (ok_tupR (pe_tupRg rfl (by rfl) T.n_tuple (prg_1 (by rfl) T.n_range (ok_call (pe_callB (cl_lenD c) (by rfl) T.n_len (by decide +kernel) (oka_cons (ok_var (pv 2)) oka_nil)))))) (by first | rfl | exact nomark _)) (okw_or1 (okt_cmp (op_Ne c) (ok_callF (pe_call ((ok_may_have T).imp frm_sp) (hr.mono (by decide)) (by rfl) T.m_may_have T.f_may_have.kp T.b_may_have .nil pass0 (oka_cons (ok_str (c := [97, 98]) (by decide +kernel)) (oka_cons (ok_d0 c) (oka_cons (ok_var (pv 6)) (oka_cons (ok_call (pe_callB (cl_lenD c) (by rfl) T.n_len (by decide +kernel) (oka_cons (ok_var (pv 2)) oka_nil))) (oka_cons (ok_var (pv 3)) oka_nil))))))) (ok_if (okt_cmp op_Lt (ok_call (pe_callB (cl_lenD c) (by rfl) T.n_len (by decide +kernel) (oka_cons (ok_var (pv 3)) oka_nil))) (ok_var (pv 6)) (by first | rfl | exact nomark _)) (ok_tupR (pe_tupRg rfl (by rfl) T.n_tuple (prg_1 (by rfl) T.n_range (ok_call (pe_callB (cl_lenD c) (by rfl) T.n_len (by decide +kernel) (oka_cons (ok_var (pv 2)) oka_nil)))))) (ok_tup oka_nil)) (by first | rfl | exact nomark _)))))
 (oks_one (ok_ret ok_bl))
 oks_nil)
 (oks_one (ok_sIf (okt_cmp (op_Ne c) (ok_call (pe_callB (cl_sum c) (by rfl) T.n_sum (by decide +kernel) (oka_cons (ok_lc (own := [25]) (t := (.nm 25)) (pe_lc (own := [("row", 25)]) rfl sc_law.nd (pi_valsF (ok_var (pv 9))) (blkOk_by (own := [("row", 25)]) (N := N_law) (sc := defScope s_law) (by decide +kernel)) (fun _ _ _ _ _ => (okg_nm (pg_name (i := 25) sc_law.nd rfl (by first | exact Or.inl rfl | exact Or.inr rfl)))) (fun _ _ _ _ _ => okts_nil) (fun _ _ _ _ _ => (ok_call (pe_callB (cl_lenD (Cc.blk c)) (by rfl) T.n_len (by decide +kernel) (oka_cons (ok_var (pv 25)) oka_nil))))) (by simp [Tg.slots, Tg.slotss])) oka_nil))) (ok_call (pe_callB (cl_sum c) (by rfl) T.n_sum (by decide +kernel) (oka_cons (ok_lc (own := [16]) (t := (.nm 16)) (pe_lc (own := [("text", 16)]) rfl sc_law.nd (pi_any c (ok_var (pv 2))) (blkOk_by (own := [("text", 16)]) (N := N_law) (sc := defScope s_law) (by decide +kernel)) (fun _ _ _ _ _ => (okg_nm (pg_name (i := 16) sc_law.nd rfl (by first | exact Or.inl rfl | exact Or.inr rfl)))) (fun _ _ _ _ _ => okts_nil) (fun _ _ _ _ _ => (ok_call (pe_callB (cl_lenD (Cc.blk c)) (by rfl) T.n_len (by decide +kernel) (oka_cons (ok_callF (pe_call ((ok_runs_of T).imp frm_sp) (hr.mono (by decide)) (by rfl) T.m_runs_of T.f_runs_of.kp T.b_runs_of .nil pass0 (oka_cons (ok_str (c := [97, 98]) (by decide +kernel)) (oka_cons (ok_var (pv 16)) (oka_cons (ok_var (pv 6)) oka_nil))))) oka_nil))))) (by simp [Tg.slots, Tg.slotss])) oka_nil))) (by first | rfl | exact nomark _))
 (oks_one (ok_ret ok_bl))
 oks_nil))))))))))))))
 (oks_cons (ok_set (ps_set (i := 7) sc_law.nd rfl (by first | exact Or.inl rfl | exact Or.inr rfl) (ok_call (pe_callTy (cl_tuple c) (by rfl) T.n_tuple (by decide +kernel) (oka_cons (ok_lc (own := [16]) (t := (.nm 16)) (pe_lc (own := [("text", 16)]) rfl sc_law.nd (pi_any c (ok_var (pv 2))) (blkOk_by (own := [("text", 16)]) (N := N_law) (sc := defScope s_law) (by decide +kernel)) (fun _ _ _ _ _ => (okg_nm (pg_name (i := 16) sc_law.nd rfl (by first | exact Or.inl rfl | exact Or.inr rfl)))) (fun _ _ _ _ _ => okts_nil) (fun _ _ _ _ _ => (ok_rev (Cc.blk c) (ok_var (pv 16))))) (by simp [Tg.slots, Tg.slotss])) oka_nil)))) rfl)
 (oks_cons (ok_sIf (PW.pt (okw_or (okt_cmp (op_Ne c) (ok_ixD c (ok_callF (pe_call ((ok_search T).imp frm_sp) (hr.mono (by decide)) (by rfl) T.m_search T.f_search.kp T.b_search .nil pass0 (oka_cons (ok_str (c := [97, 98]) (by decide +kernel)) (oka_cons (ok_var (pv 7)) (oka_cons ok_int (oka_cons (ok_rev c (ok_var (pv 3))) oka_nil)))))) ok_int) (ok_var (pv 4)) (by first | rfl | exact nomark _)) (okw_or1 (okt_cmp (op_Ne c) (ok_callF (pe_call ((ok_search T).imp frm_sp) (hr.mono (by decide)) (by rfl) T.m_search T.f_search.kp T.b_search .nil pass0 (oka_cons (ok_str (c := [98, 97]) (by decide +kernel)) (oka_cons (ok_var (pv 2)) (oka_cons ok_int (oka_cons (ok_var (pv 3)) oka_nil)))))) (ok_callF (pe_call ((ok_search T).imp frm_sp) (hr.mono (by decide)) (by rfl) T.m_search T.f_search.kp T.b_search .nil pass0 (oka_cons (ok_str (c := [97, 98]) (by decide +kernel)) (oka_cons (ok_var (pv 2)) (oka_cons ok_int (oka_cons (ok_var (pv 3)) oka_nil)))))) (by first | rfl | exact nomark _)))))
 (oks_one (ok_ret ok_bl))
 oks_nil)
 (oks_cons (ok_set (ps_set (i := 8) sc_law.nd rfl (by first | exact Or.inl rfl | exact Or.inr rfl) (ok_callF (pe_call ((ok_run_exactly T).imp frm_sp) (hr.mono (by decide)) (by rfl) T.m_run_exactly T.f_run_exactly.kp T.b_run_exactly .nil pass0 (oka_cons (ok_str (c := [97, 98, 99]) (by decide +kernel)) (oka_cons ok_int (oka_cons (ok_sl c (ok_var (pv 3)) okp_none (okp_some ok_int)) oka_nil)))))) rfl)
 (oks_one (ok_ret (ok_and (ok_cmp (op_Eq c) (ok_ixD c (ok_var (pv 8)) ok_int) (ok_str (c := [101, 120, 97, 99, 116]) (by decide +kernel)) (by first | rfl | exact nomark _)) (ok_and (ok_call (pe_callB (cl_all c) (by rfl) T.n_all (by decide +kernel) (oka_cons (ok_lc (own := [26, 27]) (t := (.tp [(.nm 26), (.nm 27)])) (pe_lc (own := [("key", 26), ("answer", 27)]) rfl sc_law.nd (pi_itemsF (ok_ixD c (ok_var (pv 8)) ok_int)) (blkOk_by (own := [("key", 26), ("answer", 27)]) (N := N_law) (sc := defScope s_law) (by decide +kernel)) (fun _ _ _ _ _ => (okg_tp (Cc.blk c) (okgs_cons (okg_nm (pg_name (i := 26) sc_law.nd rfl (by first | exact Or.inl rfl | exact Or.inr rfl))) (okgs_cons (okg_nm (pg_name (i := 27) sc_law.nd rfl (by first | exact Or.inl rfl | exact Or.inr rfl))) okgs_nil)))) (fun _ _ _ _ _ => okts_nil) (fun _ _ _ _ _ => (ok_cmp (op_Eq (Cc.blk c)) (ok_var (pv 27)) (ok_or (ok_cmp (op_Eq (Cc.blk c)) (ok_sl (Cc.blk c) (ok_var (pv 3)) okp_none (okp_some ok_int)) (ok_str (c := []) (by decide +kernel)) (by first | rfl | exact nomark _)) (ok_one (ok_cmp (op_In' (Cc.blk c)) (ok_sl (Cc.blk c) (ok_var (pv 3)) okp_none (okp_some ok_int)) (ok_var (pv 26)) (by first | rfl | exact nomark _)))) (by first | rfl | exact nomark _)))) (by simp [Tg.slots, Tg.slotss])) oka_nil))) (ok_one (ok_cmp (op_Eq c) (ok_call (pe_callB (cl_lenD c) (by rfl) T.n_len (by decide +kernel) (oka_cons (ok_ixD c (ok_var (pv 8)) ok_int) oka_nil))) ok_int (by first | rfl | exact nomark _))))))))))))))))
end
end K44

set_option Elab.async false
set_option linter.all false
set_option maxRecDepth 100000
namespace K44
open PySem PySem.Spec PyProof.Rows L2 Pl
set_option maxHeartbeats 4000000 in
theorem all_mk (hF : TrueOn 63 F_law) {l : PySem.W.OpenLaw} {w : World} {K : PySem.W.Frag} {h : Heap} {mg : Str → Option Value} {fa C0 f0 f1 f2 f3 f4 f5 f6 f7 f8 f9 f10 f11 f12 f13 f14 f15 f16 f17 f18 f19 f20 : Addr} {od0 an0 od1 an1 od2 an2 od3 an3 od4 an4 od5 an5 od6 an6 od7 an7 od8 an8 od9 an9 od10 an10 od11 an11 od12 an12 od13 an13 od14 an14 od15 an15 od16 an16 od17 an17 od18 an18 od19 an19 od20 an20 : Option Addr} {sl0 sl1 sl2 sl3 sl4 sl5 sl6 sl7 sl8 sl9 sl10 sl11 sl12 sl13 sl14 sl15 sl16 sl17 sl18 sl19 sl20 : Array (Option Value)} {oc0 kV0 dc0 pm0 cd0 ct0 oc1 kV1 dc1 pm1 cd1 ct1 oc2 kV2 dc2 pm2 cd2 ct2 oc3 kV3 dc3 pm3 cd3 ct3 oc4 kV4 dc4 pm4 cd4 ct4 oc5 kV5 dc5 pm5 cd5 ct5 oc6 kV6 dc6 pm6 cd6 ct6 oc7 kV7 dc7 pm7 cd7 ct7 oc8 kV8 dc8 pm8 cd8 ct8 oc9 kV9 dc9 pm9 cd9 ct9 oc10 kV10 dc10 pm10 cd10 ct10 oc11 kV11 dc11 pm11 cd11 ct11 oc12 kV12 dc12 pm12 cd12 ct12 oc13 kV13 dc13 pm13 cd13 ct13 oc14 kV14 dc14 pm14 cd14 ct14 oc15 kV15 dc15 pm15 cd15 ct15 oc16 kV16 dc16 pm16 cd16 ct16 oc17 kV17 dc17 pm17 cd17 ct17 oc18 kV18 dc18 pm18 cd18 ct18 oc19 kV19 dc19 pm19 cd19 ct19 oc20 kV20 dc20 pm20 cd20 ct20 : Value} {tk_LETTERS tk_MOST_SETS : Tok} (X : K.In h) (G : h.Ns mainGlobals mg) (hfa : mg "law" = some (.ref fa))
    (aC0 : PySem.W.nsIn K mainGlobals "Walks" = some (some (.ref C0)))
    (a0 : PySem.W.nsIn K mainGlobals "_law_cell_at" = some (some (.ref f0)))
    (l0 : K.lookup f0 = some ⟨oc0, od0, .func (PySem.W.fnOf "_law_cell_at" "_law_cell_at" (defArgs s__law_cell_at) (defBody s__law_cell_at) (defScope s__law_cell_at) .none kV0 dc0 pm0 an0 cd0 ct0), sl0⟩)
    (c0 : PySem.W.codeIn K cd0 "_law_cell_at" = true)
    (k0 : PySem.W.keepIn K (.ref f0) = true)
    (a1 : PySem.W.nsIn K mainGlobals "_law_draw" = some (some (.ref f1)))
    (l1 : K.lookup f1 = some ⟨oc1, od1, .func (PySem.W.fnOf "_law_draw" "_law_draw" (defArgs s__law_draw) (defBody s__law_draw) (defScope s__law_draw) .none kV1 dc1 pm1 an1 cd1 ct1), sl1⟩)
    (c1 : PySem.W.codeIn K cd1 "_law_draw" = true)
    (k1 : PySem.W.keepIn K (.ref f1) = true)
    (a2 : PySem.W.nsIn K mainGlobals "_law_number" = some (some (.ref f2)))
    (l2 : K.lookup f2 = some ⟨oc2, od2, .func (PySem.W.fnOf "_law_number" "_law_number" (defArgs s__law_number) (defBody s__law_number) (defScope s__law_number) .none kV2 dc2 pm2 an2 cd2 ct2), sl2⟩)
    (c2 : PySem.W.codeIn K cd2 "_law_number" = true)
    (k2 : PySem.W.keepIn K (.ref f2) = true)
    (a3 : PySem.W.nsIn K mainGlobals "_law_next" = some (some (.ref f3)))
    (l3 : K.lookup f3 = some ⟨oc3, od3, .func (PySem.W.fnOf "_law_next" "_law_next" (defArgs s__law_next) (defBody s__law_next) (defScope s__law_next) .none kV3 dc3 pm3 an3 cd3 ct3), sl3⟩)
    (c3 : PySem.W.codeIn K cd3 "_law_next" = true)
    (k3 : PySem.W.keepIn K (.ref f3) = true)
    (a4 : PySem.W.nsIn K mainGlobals "_law_pick" = some (some (.ref f4)))
    (l4 : K.lookup f4 = some ⟨oc4, od4, .func (PySem.W.fnOf "_law_pick" "_law_pick" (defArgs s__law_pick) (defBody s__law_pick) (defScope s__law_pick) .none kV4 dc4 pm4 an4 cd4 ct4), sl4⟩)
    (c4 : PySem.W.codeIn K cd4 "_law_pick" = true)
    (k4 : PySem.W.keepIn K (.ref f4) = true)
    (a5 : PySem.W.nsIn K mainGlobals "check_signs" = some (some (.ref f5)))
    (l5 : K.lookup f5 = some ⟨oc5, od5, .func (PySem.W.fnOf "check_signs" "check_signs" (defArgs s_check_signs) (defBody s_check_signs) (defScope s_check_signs) .none kV5 dc5 pm5 an5 cd5 ct5), sl5⟩)
    (c5 : PySem.W.codeIn K cd5 "check_signs" = true)
    (k5 : PySem.W.keepIn K (.ref f5) = true)
    (a6 : PySem.W.nsIn K mainGlobals "check_run" = some (some (.ref f6)))
    (l6 : K.lookup f6 = some ⟨oc6, od6, .func (PySem.W.fnOf "check_run" "check_run" (defArgs s_check_run) (defBody s_check_run) (defScope s_check_run) .none kV6 dc6 pm6 an6 cd6 ct6), sl6⟩)
    (c6 : PySem.W.codeIn K cd6 "check_run" = true)
    (k6 : PySem.W.keepIn K (.ref f6) = true)
    (a7 : PySem.W.nsIn K mainGlobals "is_whole" = some (some (.ref f7)))
    (l7 : K.lookup f7 = some ⟨oc7, od7, .func (PySem.W.fnOf "is_whole" "is_whole" (defArgs s_is_whole) (defBody s_is_whole) (defScope s_is_whole) .none kV7 dc7 pm7 an7 cd7 ct7), sl7⟩)
    (c7 : PySem.W.codeIn K cd7 "is_whole" = true)
    (k7 : PySem.W.keepIn K (.ref f7) = true)
    (a8 : PySem.W.nsIn K mainGlobals "is_from" = some (some (.ref f8)))
    (l8 : K.lookup f8 = some ⟨oc8, od8, .func (PySem.W.fnOf "is_from" "is_from" (defArgs s_is_from) (defBody s_is_from) (defScope s_is_from) .none kV8 dc8 pm8 an8 cd8 ct8), sl8⟩)
    (c8 : PySem.W.codeIn K cd8 "is_from" = true)
    (k8 : PySem.W.keepIn K (.ref f8) = true)
    (a9 : PySem.W.nsIn K mainGlobals "check_width" = some (some (.ref f9)))
    (l9 : K.lookup f9 = some ⟨oc9, od9, .func (PySem.W.fnOf "check_width" "check_width" (defArgs s_check_width) (defBody s_check_width) (defScope s_check_width) .none kV9 dc9 pm9 an9 cd9 ct9), sl9⟩)
    (c9 : PySem.W.codeIn K cd9 "check_width" = true)
    (k9 : PySem.W.keepIn K (.ref f9) = true)
    (a10 : PySem.W.nsIn K mainGlobals "runs_of" = some (some (.ref f10)))
    (l10 : K.lookup f10 = some ⟨oc10, od10, .func (PySem.W.fnOf "runs_of" "runs_of" (defArgs s_runs_of) (defBody s_runs_of) (defScope s_runs_of) .none kV10 dc10 pm10 an10 cd10 ct10), sl10⟩)
    (c10 : PySem.W.codeIn K cd10 "runs_of" = true)
    (k10 : PySem.W.keepIn K (.ref f10) = true)
    (a11 : PySem.W.nsIn K mainGlobals "run_postings" = some (some (.ref f11)))
    (l11 : K.lookup f11 = some ⟨oc11, od11, .func (PySem.W.fnOf "run_postings" "run_postings" (defArgs s_run_postings) (defBody s_run_postings) (defScope s_run_postings) .none kV11 dc11 pm11 an11 cd11 ct11), sl11⟩)
    (c11 : PySem.W.codeIn K cd11 "run_postings" = true)
    (k11 : PySem.W.keepIn K (.ref f11) = true)
    (a12 : PySem.W.nsIn K mainGlobals "may_have" = some (some (.ref f12)))
    (l12 : K.lookup f12 = some ⟨oc12, od12, .func (PySem.W.fnOf "may_have" "may_have" (defArgs s_may_have) (defBody s_may_have) (defScope s_may_have) .none kV12 dc12 pm12 an12 cd12 ct12), sl12⟩)
    (c12 : PySem.W.codeIn K cd12 "may_have" = true)
    (k12 : PySem.W.keepIn K (.ref f12) = true)
    (a13 : PySem.W.nsIn K mainGlobals "search" = some (some (.ref f13)))
    (l13 : K.lookup f13 = some ⟨oc13, od13, .func (PySem.W.fnOf "search" "search" (defArgs s_search) (defBody s_search) (defScope s_search) .none kV13 dc13 pm13 an13 cd13 ct13), sl13⟩)
    (c13 : PySem.W.codeIn K cd13 "search" = true)
    (k13 : PySem.W.keepIn K (.ref f13) = true)
    (a14 : PySem.W.findIn K (.ref C0) "kind" = some (some (.ref f14)))
    (i14 : PySem.W.isFn K (.ref f14) = true)
    (l14 : K.lookup f14 = some ⟨oc14, od14, .func (PySem.W.fnOf "kind" "Walks.kind" (defArgs s_Walks_kind) (defBody s_Walks_kind) (defScope s_Walks_kind) .none kV14 dc14 pm14 an14 cd14 ct14), sl14⟩)
    (c14 : PySem.W.codeIn K cd14 "Walks.kind" = true)
    (k14 : PySem.W.keepIn K (.ref f14) = true)
    (a15 : PySem.W.findIn K (.ref C0) "__init__" = some (some (.ref f15)))
    (i15 : PySem.W.isFn K (.ref f15) = true)
    (l15 : K.lookup f15 = some ⟨oc15, od15, .func (PySem.W.fnOf "__init__" "Walks.__init__" (defArgs s_WalksU_initU) (defBody s_WalksU_initU) (defScope s_WalksU_initU) .none kV15 dc15 pm15 an15 cd15 ct15), sl15⟩)
    (c15 : PySem.W.codeIn K cd15 "Walks.__init__" = true)
    (k15 : PySem.W.keepIn K (.ref f15) = true)
    (a16 : PySem.W.findIn K (.ref C0) "step" = some (some (.ref f16)))
    (i16 : PySem.W.isFn K (.ref f16) = true)
    (l16 : K.lookup f16 = some ⟨oc16, od16, .func (PySem.W.fnOf "step" "Walks.step" (defArgs s_Walks_step) (defBody s_Walks_step) (defScope s_Walks_step) .none kV16 dc16 pm16 an16 cd16 ct16), sl16⟩)
    (c16 : PySem.W.codeIn K cd16 "Walks.step" = true)
    (k16 : PySem.W.keepIn K (.ref f16) = true)
    (a17 : PySem.W.findIn K (.ref C0) "grow" = some (some (.ref f17)))
    (i17 : PySem.W.isFn K (.ref f17) = true)
    (l17 : K.lookup f17 = some ⟨oc17, od17, .func (PySem.W.fnOf "grow" "Walks.grow" (defArgs s_Walks_grow) (defBody s_Walks_grow) (defScope s_Walks_grow) .none kV17 dc17 pm17 an17 cd17 ct17), sl17⟩)
    (c17 : PySem.W.codeIn K cd17 "Walks.grow" = true)
    (k17 : PySem.W.keepIn K (.ref f17) = true)
    (a18 : PySem.W.nsIn K mainGlobals "run_exactly" = some (some (.ref f18)))
    (l18 : K.lookup f18 = some ⟨oc18, od18, .func (PySem.W.fnOf "run_exactly" "run_exactly" (defArgs s_run_exactly) (defBody s_run_exactly) (defScope s_run_exactly) .none kV18 dc18 pm18 an18 cd18 ct18), sl18⟩)
    (c18 : PySem.W.codeIn K cd18 "run_exactly" = true)
    (k18 : PySem.W.keepIn K (.ref f18) = true)
    (a19 : PySem.W.nsIn K mainGlobals "run_exactly_holds" = some (some (.ref f19)))
    (l19 : K.lookup f19 = some ⟨oc19, od19, .func (PySem.W.fnOf "run_exactly_holds" "run_exactly_holds" (defArgs s_run_exactly_holds) (defBody s_run_exactly_holds) (defScope s_run_exactly_holds) .none kV19 dc19 pm19 an19 cd19 ct19), sl19⟩)
    (c19 : PySem.W.codeIn K cd19 "run_exactly_holds" = true)
    (k19 : PySem.W.keepIn K (.ref f19) = true)
    (a20 : PySem.W.nsIn K mainGlobals "law" = some (some (.ref f20)))
    (l20 : K.lookup f20 = some ⟨oc20, od20, .func (PySem.W.fnOf "law" "law" (defArgs s_law) (defBody s_law) (defScope s_law) .none kV20 dc20 pm20 an20 cd20 ct20), sl20⟩)
    (c20 : PySem.W.codeIn K cd20 "law" = true)
    (k20 : PySem.W.keepIn K (.ref f20) = true)
    (pg0 : PySem.W.plainGet K C0 Str.empty = true)
    (hd0 : PySem.W.hasDictIn K C0 = true)
    (po0 : PySem.W.plainOver K C0 = true)
    (sa0 : PySem.W.findIn K (.ref C0) "__setattr__" = some (some (.builtin "object.__setattr__")))
    (mk0 : PySem.W.makesIn K C0 = true)
    (kc0 : PySem.W.keepIn K (.ref C0) = true)
    (no_part : PySem.W.findIn K (.ref C0) "part" = some none)
    (no_signs : PySem.W.findIn K (.ref C0) "signs" = some none)
    (no_texts : PySem.W.findIn K (.ref C0) "texts" = some none)
    (no_waiting : PySem.W.findIn K (.ref C0) "waiting" = some none)
    (no_width : PySem.W.findIn K (.ref C0) "width" = some none)
    (z_all : PySem.W.nsIn K mainGlobals "all" = some none)
    (z_any : PySem.W.nsIn K mainGlobals "any" = some none)
    (z_bool : PySem.W.nsIn K mainGlobals "bool" = some none)
    (z_dict : PySem.W.nsIn K mainGlobals "dict" = some none)
    (z_enumerate : PySem.W.nsIn K mainGlobals "enumerate" = some none)
    (z_int : PySem.W.nsIn K mainGlobals "int" = some none)
    (z_isinstance : PySem.W.nsIn K mainGlobals "isinstance" = some none)
    (z_len : PySem.W.nsIn K mainGlobals "len" = some none)
    (z_list : PySem.W.nsIn K mainGlobals "list" = some none)
    (z_max : PySem.W.nsIn K mainGlobals "max" = some none)
    (z_min : PySem.W.nsIn K mainGlobals "min" = some none)
    (z_range : PySem.W.nsIn K mainGlobals "range" = some none)
    (z_sorted : PySem.W.nsIn K mainGlobals "sorted" = some none)
    (z_str : PySem.W.nsIn K mainGlobals "str" = some none)
    (z_sum : PySem.W.nsIn K mainGlobals "sum" = some none)
    (z_tuple : PySem.W.nsIn K mainGlobals "tuple" = some none)
    (t_LETTERS : PySem.W.nsIn K mainGlobals "LETTERS" = some (some (.str (Str.ofString "abcdefghijklmnopqrstuvwxyz") tk_LETTERS)))
    (t_MOST_SETS : PySem.W.nsIn K mainGlobals "MOST_SETS" = some (some (.int 300 tk_MOST_SETS)))
    : ∃ fd : FuncData, (∀ (s : Shared) (v : Value), BindsTo s fd ⟨[v], []⟩ [("script", v)]) ∧ ∀ base : Heap, K.In base → base.Ns mainGlobals mg → FnOk l.prog w K mg base CX0 7 fa fd ["script"] (spTop 63 K) := by
  have e := (PySem.W.mg_of X G a20).symm.trans hfa
  cases e
  have F0 := fun_mk (st := s__law_cell_at) l0 c0 k0
  have F1 := fun_mk (st := s__law_draw) l1 c1 k1
  have F2 := fun_mk (st := s__law_number) l2 c2 k2
  have F3 := fun_mk (st := s__law_next) l3 c3 k3
  have F4 := fun_mk (st := s__law_pick) l4 c4 k4
  have F5 := fun_mk (st := s_check_signs) l5 c5 k5
  have F6 := fun_mk (st := s_check_run) l6 c6 k6
  have F7 := fun_mk (st := s_is_whole) l7 c7 k7
  have F8 := fun_mk (st := s_is_from) l8 c8 k8
  have F9 := fun_mk (st := s_check_width) l9 c9 k9
  have F10 := fun_mk (st := s_runs_of) l10 c10 k10
  have F11 := fun_mk (st := s_run_postings) l11 c11 k11
  have F12 := fun_mk (st := s_may_have) l12 c12 k12
  have F13 := fun_mk (st := s_search) l13 c13 k13
  have F14 := fun_mk (st := s_Walks_kind) l14 c14 k14
  have F15 := fun_mk (st := s_WalksU_initU) l15 c15 k15
  have F16 := fun_mk (st := s_Walks_step) l16 c16 k16
  have F17 := fun_mk (st := s_Walks_grow) l17 c17 k17
  have F18 := fun_mk (st := s_run_exactly) l18 c18 k18
  have F19 := fun_mk (st := s_run_exactly_holds) l19 c19 k19
  have F20 := fun_mk (st := s_law) l20 c20 k20
  have b0 := F0.binds (ps := ["script", "k"]) fun _ _ _ _ _ _ us hl => match us, hl with | [_, _], _ => rfl
  have b1 := F1.binds (ps := ["cell", "k", "bound"]) fun _ _ _ _ _ _ us hl => match us, hl with | [_, _, _], _ => rfl
  have b2 := F2.binds (ps := ["cell", "k", "bound"]) fun _ _ _ _ _ _ us hl => match us, hl with | [_, _, _], _ => rfl
  have b3 := F3.binds (ps := ["draw", "bound"]) fun _ _ _ _ _ _ us hl => match us, hl with | [_, _], _ => rfl
  have b4 := F4.binds (ps := ["draw", "things"]) fun _ _ _ _ _ _ us hl => match us, hl with | [_, _], _ => rfl
  have b5 := F5.binds (ps := ["signs"]) fun _ _ _ _ _ _ us hl => match us, hl with | [_], _ => rfl
  have b6 := F6.binds (ps := ["signs", "text"]) fun _ _ _ _ _ _ us hl => match us, hl with | [_, _], _ => rfl
  have b7 := F7.binds (ps := ["thing"]) fun _ _ _ _ _ _ us hl => match us, hl with | [_], _ => rfl
  have b8 := F8.binds (ps := ["thing", "least", "most"]) fun _ _ _ _ _ _ us hl => match us, hl with | [_, _, _], _ => rfl
  have b9 := F9.binds (ps := ["width"]) fun _ _ _ _ _ _ us hl => match us, hl with | [_], _ => rfl
  have b10 := F10.binds (ps := ["signs", "text", "width"]) fun _ _ _ _ _ _ us hl => match us, hl with | [_, _, _], _ => rfl
  have b11 := F11.binds (ps := ["signs", "texts", "width"]) fun _ _ _ _ _ _ us hl => match us, hl with | [_, _, _], _ => rfl
  have b12 := F12.binds (ps := ["signs", "table", "width", "many", "part"]) fun _ _ _ _ _ _ us hl => match us, hl with | [_, _, _, _, _], _ => rfl
  have b13 := F13.binds (ps := ["signs", "texts", "width", "part"]) fun _ _ _ _ _ _ us hl => match us, hl with | [_, _, _, _], _ => rfl
  have b14 := F14.binds (ps := ["self", "runs", "tail", "seen", "is_in"]) fun _ _ _ _ _ _ us hl => match us, hl with | [_, _, _, _, _], _ => rfl
  have b15 := F15.binds (ps := ["self", "signs", "width", "part"]) fun _ _ _ _ _ _ us hl => match us, hl with | [_, _, _, _], _ => rfl
  have b16 := F16.binds (ps := ["self", "kind", "sign"]) fun _ _ _ _ _ _ us hl => match us, hl with | [_, _, _], _ => rfl
  have b17 := F17.binds (ps := ["self"]) fun _ _ _ _ _ _ us hl => match us, hl with | [_], _ => rfl
  have b18 := F18.binds (ps := ["signs", "width", "part"]) fun _ _ _ _ _ _ us hl => match us, hl with | [_, _, _], _ => rfl
  have b19 := F19.binds (ps := ["signs", "width", "part", "told"]) fun _ _ _ _ _ _ us hl => match us, hl with | [_, _, _, _], _ => rfl
  have b20 := F20.binds (ps := ["script"]) fun _ _ _ _ _ _ us hl => match us, hl with | [_], _ => rfl
  let T : Tx K mg := {
    a := fun i => [f0, f1, f2, f3, f4, f5, f6, f7, f8, f9, f10, f11, f12, f13, f14, f15, f16, f17, f18, f19, fa].getD i 0
    d := fun i => [PySem.W.fnOf "_law_cell_at" "_law_cell_at" (defArgs s__law_cell_at) (defBody s__law_cell_at) (defScope s__law_cell_at) .none kV0 dc0 pm0 an0 cd0 ct0, PySem.W.fnOf "_law_draw" "_law_draw" (defArgs s__law_draw) (defBody s__law_draw) (defScope s__law_draw) .none kV1 dc1 pm1 an1 cd1 ct1, PySem.W.fnOf "_law_number" "_law_number" (defArgs s__law_number) (defBody s__law_number) (defScope s__law_number) .none kV2 dc2 pm2 an2 cd2 ct2, PySem.W.fnOf "_law_next" "_law_next" (defArgs s__law_next) (defBody s__law_next) (defScope s__law_next) .none kV3 dc3 pm3 an3 cd3 ct3, PySem.W.fnOf "_law_pick" "_law_pick" (defArgs s__law_pick) (defBody s__law_pick) (defScope s__law_pick) .none kV4 dc4 pm4 an4 cd4 ct4, PySem.W.fnOf "check_signs" "check_signs" (defArgs s_check_signs) (defBody s_check_signs) (defScope s_check_signs) .none kV5 dc5 pm5 an5 cd5 ct5, PySem.W.fnOf "check_run" "check_run" (defArgs s_check_run) (defBody s_check_run) (defScope s_check_run) .none kV6 dc6 pm6 an6 cd6 ct6, PySem.W.fnOf "is_whole" "is_whole" (defArgs s_is_whole) (defBody s_is_whole) (defScope s_is_whole) .none kV7 dc7 pm7 an7 cd7 ct7, PySem.W.fnOf "is_from" "is_from" (defArgs s_is_from) (defBody s_is_from) (defScope s_is_from) .none kV8 dc8 pm8 an8 cd8 ct8, PySem.W.fnOf "check_width" "check_width" (defArgs s_check_width) (defBody s_check_width) (defScope s_check_width) .none kV9 dc9 pm9 an9 cd9 ct9, PySem.W.fnOf "runs_of" "runs_of" (defArgs s_runs_of) (defBody s_runs_of) (defScope s_runs_of) .none kV10 dc10 pm10 an10 cd10 ct10, PySem.W.fnOf "run_postings" "run_postings" (defArgs s_run_postings) (defBody s_run_postings) (defScope s_run_postings) .none kV11 dc11 pm11 an11 cd11 ct11, PySem.W.fnOf "may_have" "may_have" (defArgs s_may_have) (defBody s_may_have) (defScope s_may_have) .none kV12 dc12 pm12 an12 cd12 ct12, PySem.W.fnOf "search" "search" (defArgs s_search) (defBody s_search) (defScope s_search) .none kV13 dc13 pm13 an13 cd13 ct13, PySem.W.fnOf "kind" "Walks.kind" (defArgs s_Walks_kind) (defBody s_Walks_kind) (defScope s_Walks_kind) .none kV14 dc14 pm14 an14 cd14 ct14, PySem.W.fnOf "__init__" "Walks.__init__" (defArgs s_WalksU_initU) (defBody s_WalksU_initU) (defScope s_WalksU_initU) .none kV15 dc15 pm15 an15 cd15 ct15, PySem.W.fnOf "step" "Walks.step" (defArgs s_Walks_step) (defBody s_Walks_step) (defScope s_Walks_step) .none kV16 dc16 pm16 an16 cd16 ct16, PySem.W.fnOf "grow" "Walks.grow" (defArgs s_Walks_grow) (defBody s_Walks_grow) (defScope s_Walks_grow) .none kV17 dc17 pm17 an17 cd17 ct17, PySem.W.fnOf "run_exactly" "run_exactly" (defArgs s_run_exactly) (defBody s_run_exactly) (defScope s_run_exactly) .none kV18 dc18 pm18 an18 cd18 ct18, PySem.W.fnOf "run_exactly_holds" "run_exactly_holds" (defArgs s_run_exactly_holds) (defBody s_run_exactly_holds) (defScope s_run_exactly_holds) .none kV19 dc19 pm19 an19 cd19 ct19, PySem.W.fnOf "law" "law" (defArgs s_law) (defBody s_law) (defScope s_law) .none kV20 dc20 pm20 an20 cd20 ct20].getD i (PySem.W.fnOf "law" "law" (defArgs s_law) (defBody s_law) (defScope s_law) .none kV20 dc20 pm20 an20 cd20 ct20)
    cls := fun i => [C0].getD i 0
    f__law_cell_at := F0
    b__law_cell_at := b0
    m__law_cell_at := PySem.W.mg_of X G a0
    f__law_draw := F1
    b__law_draw := b1
    m__law_draw := PySem.W.mg_of X G a1
    f__law_number := F2
    b__law_number := b2
    m__law_number := PySem.W.mg_of X G a2
    f__law_next := F3
    b__law_next := b3
    m__law_next := PySem.W.mg_of X G a3
    f__law_pick := F4
    b__law_pick := b4
    m__law_pick := PySem.W.mg_of X G a4
    f_check_signs := F5
    b_check_signs := b5
    m_check_signs := PySem.W.mg_of X G a5
    f_check_run := F6
    b_check_run := b6
    m_check_run := PySem.W.mg_of X G a6
    f_is_whole := F7
    b_is_whole := b7
    m_is_whole := PySem.W.mg_of X G a7
    f_is_from := F8
    b_is_from := b8
    m_is_from := PySem.W.mg_of X G a8
    f_check_width := F9
    b_check_width := b9
    m_check_width := PySem.W.mg_of X G a9
    f_runs_of := F10
    b_runs_of := b10
    m_runs_of := PySem.W.mg_of X G a10
    f_run_postings := F11
    b_run_postings := b11
    m_run_postings := PySem.W.mg_of X G a11
    f_may_have := F12
    b_may_have := b12
    m_may_have := PySem.W.mg_of X G a12
    f_search := F13
    b_search := b13
    m_search := PySem.W.mg_of X G a13
    f_Walks_kind := F14
    b_Walks_kind := b14
    f_WalksU_initU := F15
    b_WalksU_initU := b15
    f_Walks_step := F16
    b_Walks_step := b16
    f_Walks_grow := F17
    b_Walks_grow := b17
    f_run_exactly := F18
    b_run_exactly := b18
    m_run_exactly := PySem.W.mg_of X G a18
    f_run_exactly_holds := F19
    b_run_exactly_holds := b19
    m_run_exactly_holds := PySem.W.mg_of X G a19
    f_law := F20
    b_law := b20
    m_law := PySem.W.mg_of X G a20
    n_all := PySem.W.mg_none_of X G z_all
    n_any := PySem.W.mg_none_of X G z_any
    n_bool := PySem.W.mg_none_of X G z_bool
    n_dict := PySem.W.mg_none_of X G z_dict
    n_enumerate := PySem.W.mg_none_of X G z_enumerate
    n_int := PySem.W.mg_none_of X G z_int
    n_isinstance := PySem.W.mg_none_of X G z_isinstance
    n_len := PySem.W.mg_none_of X G z_len
    n_list := PySem.W.mg_none_of X G z_list
    n_max := PySem.W.mg_none_of X G z_max
    n_min := PySem.W.mg_none_of X G z_min
    n_range := PySem.W.mg_none_of X G z_range
    n_sorted := PySem.W.mg_none_of X G z_sorted
    n_str := PySem.W.mg_none_of X G z_str
    n_sum := PySem.W.mg_none_of X G z_sum
    n_tuple := PySem.W.mg_none_of X G z_tuple
    t_LETTERS := tk_LETTERS
    k_LETTERS := PySem.W.mg_of X G t_LETTERS
    t_MOST_SETS := tk_MOST_SETS
    k_MOST_SETS := PySem.W.mg_of X G t_MOST_SETS
    cl_Walks := ⟨pg0, hd0, po0, sa0⟩
    c_Walks := PySem.W.mg_of X G aC0
    mk_Walks := ⟨mk0, a15, i15, kc0⟩
    no_part := no_part
    no_signs := no_signs
    no_texts := no_texts
    no_waiting := no_waiting
    no_width := no_width
    me_Walks_grow := ⟨a17, i17, k17⟩
    me_Walks_kind := ⟨a14, i14, k14⟩
    me_Walks_step := ⟨a16, i16, k16⟩
  }
  exact ⟨PySem.W.fnOf "law" "law" (defArgs s_law) (defBody s_law) (defScope s_law) .none kV20 dc20 pm20 an20 cd20 ct20, fun s v => .of_eq rfl, fun base _ _ => (ok_law T).imp (top_sp (Γ := Gm K w T) hF)⟩
end K44
open PySem PySem.W PyProof.Rows
set_option maxHeartbeats 0 in
theorem PySem.Challenge.cw_manypasts_k44_whole_runs_tie_holds : PySem.Challenge.rw_manypasts_k44_whole_runs_tie.Holds := by
  w_on; o_law; k_head; (case hw => w_witness2)
  k_fill
  refine L2.walk_of (l := PySem.Challenge.rw_manypasts_k44_whole_runs_tie) (n := 63) (k := 7) (x := "script") (CX := fun _ => L2.CX0) (sp := fun w => Pl.spTop 63 _) rfl (by decide) rfl ⟨rfl, by decide, by decide⟩ (fun w h Y => PySem.W.kIn_of Y) ?F (fun _ _ a ns hl _ hS => ⟨a, ns, rfl, hS, hl, fun _ => rfl⟩) (fun _ _ _ _ _ h => h)
  case F =>
    intro w mg fa h KX G hmg
    refine' K44.all_mk K44.main_true KX G hmg ?aC0 ?a0 ?l0 ?c0 ?k0 ?a1 ?l1 ?c1 ?k1 ?a2 ?l2 ?c2 ?k2 ?a3 ?l3 ?c3 ?k3 ?a4 ?l4 ?c4 ?k4 ?a5 ?l5 ?c5 ?k5 ?a6 ?l6 ?c6 ?k6 ?a7 ?l7 ?c7 ?k7 ?a8 ?l8 ?c8 ?k8 ?a9 ?l9 ?c9 ?k9 ?a10 ?l10 ?c10 ?k10 ?a11 ?l11 ?c11 ?k11 ?a12 ?l12 ?c12 ?k12 ?a13 ?l13 ?c13 ?k13 ?a14 ?i14 ?l14 ?c14 ?k14 ?a15 ?i15 ?l15 ?c15 ?k15 ?a16 ?i16 ?l16 ?c16 ?k16 ?a17 ?i17 ?l17 ?c17 ?k17 ?a18 ?l18 ?c18 ?k18 ?a19 ?l19 ?c19 ?k19 ?a20 ?l20 ?c20 ?k20 ?pg0 ?hd0 ?po0 ?sa0 ?mk0 ?kc0 ?no_part ?no_signs ?no_texts ?no_waiting ?no_width ?z_all ?z_any ?z_bool ?z_dict ?z_enumerate ?z_int ?z_isinstance ?z_len ?z_list ?z_max ?z_min ?z_range ?z_sorted ?z_str ?z_sum ?z_tuple ?t_LETTERS ?t_MOST_SETS
    (case aC0 => k_is)
    (case a0 => k_is)
    (case l0 => k_is)
    (case c0 => k_is)
    (case k0 => k_is)
    (case a1 => k_is)
    (case l1 => k_is)
    (case c1 => k_is)
    (case k1 => k_is)
    (case a2 => k_is)
    (case l2 => k_is)
    (case c2 => k_is)
    (case k2 => k_is)
    (case a3 => k_is)
    (case l3 => k_is)
    (case c3 => k_is)
    (case k3 => k_is)
    (case a4 => k_is)
    (case l4 => k_is)
    (case c4 => k_is)
    (case k4 => k_is)
    (case a5 => k_is)
    (case l5 => k_is)
    (case c5 => k_is)
    (case k5 => k_is)
    (case a6 => k_is)
    (case l6 => k_is)
    (case c6 => k_is)
    (case k6 => k_is)
    (case a7 => k_is)
    (case l7 => k_is)
    (case c7 => k_is)
    (case k7 => k_is)
    (case a8 => k_is)
    (case l8 => k_is)
    (case c8 => k_is)
    (case k8 => k_is)
    (case a9 => k_is)
    (case l9 => k_is)
    (case c9 => k_is)
    (case k9 => k_is)
    (case a10 => k_is)
    (case l10 => k_is)
    (case c10 => k_is)
    (case k10 => k_is)
    (case a11 => k_is)
    (case l11 => k_is)
    (case c11 => k_is)
    (case k11 => k_is)
    (case a12 => k_is)
    (case l12 => k_is)
    (case c12 => k_is)
    (case k12 => k_is)
    (case a13 => k_is)
    (case l13 => k_is)
    (case c13 => k_is)
    (case k13 => k_is)
    (case a14 => k_is)
    (case i14 => k_is)
    (case l14 => k_is)
    (case c14 => k_is)
    (case k14 => k_is)
    (case a15 => k_is)
    (case i15 => k_is)
    (case l15 => k_is)
    (case c15 => k_is)
    (case k15 => k_is)
    (case a16 => k_is)
    (case i16 => k_is)
    (case l16 => k_is)
    (case c16 => k_is)
    (case k16 => k_is)
    (case a17 => k_is)
    (case i17 => k_is)
    (case l17 => k_is)
    (case c17 => k_is)
    (case k17 => k_is)
    (case a18 => k_is)
    (case l18 => k_is)
    (case c18 => k_is)
    (case k18 => k_is)
    (case a19 => k_is)
    (case l19 => k_is)
    (case c19 => k_is)
    (case k19 => k_is)
    (case a20 => k_is)
    (case l20 => k_is)
    (case c20 => k_is)
    (case k20 => k_is)
    (case pg0 => k_is)
    (case hd0 => k_is)
    (case po0 => k_is)
    (case sa0 => k_is)
    (case mk0 => k_is)
    (case kc0 => k_is)
    (case no_part => k_is)
    (case no_signs => k_is)
    (case no_texts => k_is)
    (case no_waiting => k_is)
    (case no_width => k_is)
    (case z_all => k_is)
    (case z_any => k_is)
    (case z_bool => k_is)
    (case z_dict => k_is)
    (case z_enumerate => k_is)
    (case z_int => k_is)
    (case z_isinstance => k_is)
    (case z_len => k_is)
    (case z_list => k_is)
    (case z_max => k_is)
    (case z_min => k_is)
    (case z_range => k_is)
    (case z_sorted => k_is)
    (case z_str => k_is)
    (case z_sum => k_is)
    (case z_tuple => k_is)
    (case t_LETTERS => k_is)
    (case t_MOST_SETS => k_is)
