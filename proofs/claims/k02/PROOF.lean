import PyProof.Rows.All
import HandS.ForMost
import HandS.ForExc
import HandS.Exc
import HandS.Lambda
import HandS.Defaults
import HandS.Deep
import HandS.IsInst
import HandS.SortInts
import HandS.TupAny
import HandS.ExcIs
import KE.KStateDown
import HandS.Head0
import HandS.Head1
import HandS.Head2
import HandS.HeadEnd
import HandS.HeadHook1
import HandS.HeadHook2
import HandS.Small
import HandS.Dict
import HandS.Zip
import HandS.Rev
import HandS.Conv
import HandS.RevTup
import PyProof.ListRange
import HandS.TryOnly
import HandS.ExcOwn
import HandS.ExcValue
import HandS.HeadHook4
import KE.KNestM
import HandS.New0
import HandS.More
import KE.KDictWalk
import KE.KDictCopyH
import KE.SortKeyHeap
import KE.KDictList
import KE.GoesEnum
import PyProof.NeKinds
import PyProof.EqAt
import PySem.Challenge.RW_lidprice_k02_tables_made
set_option Elab.async false
set_option linter.all false
set_option maxRecDepth 100000
set_option maxHeartbeats 0
/-! The A-layer, part 0: abstract values, stores, their relation to the hand layer's heap. -/
namespace A
open PySem PySem.Spec PyProof.Rows L2
abbrev St := L2.St

/-- a value as data: tuples, lists, dicts and objects that nobody changes any more (t: safe, else lent) -/
inductive PV where
  | non | bl (b : Bool) | int (i : Int) | str (x : Str)
  | tup (xs : List PV)
  | lst (t : Bool) (xs : List PV)
  | dct (t : Bool) (ks : List Key) (xs : List PV)
  | obj (t : Bool) (C : Nat) (fs : List Nat) (xs : List PV)
  /-- the script itself -/
  | scr (ns : List Int)
  /-- a built-in class, an own class -/
  | ty (n : String)
  | cls (C : Nat)
  /-- an exception that was caught: its class -/
  | exn (C : Nat)
instance : Inhabited PV := ⟨.non⟩
/-- what a name holds: data (fr: a list made in this activation), or a place of the store -/
inductive AV where
  | v (p : PV) (fr : Bool)
  | ref (n : Nat)
instance : Inhabited AV := ⟨.v .non false⟩
/-- what stands in the store -/
inductive AO where
  | lst (xs : List AV)
  | dK (kvs : List (Key × AV))
  | dT (kvs : List (List Key × AV))
  | ins (C : Nat) (fs : List (Nat × AV))
  /-- a dict that is walked just now -/
  | lk (kvs : List (List Key × AV))
  /-- .. with numbers or texts as keys -/
  | lkK (kvs : List (Key × AV))
  /-- a list that is walked just now -/
  | lkL (xs : List AV)
def AO.lkd : AO → Bool
  | .lk _ => true
  | .lkK _ => true
  | .lkL _ => true
  | _ => false
abbrev Store := List AO
abbrev Slots := List (Option AV)
/-- an error: its class, its fields -/
structure AE where
  C : Nat
  fs : List (Nat × PV)
/-- what an expression comes to -/
inductive Res (α : Type) where
  | ok (a : α) (st : Store)
  | ex (e : AE) (st : Store)
  | bad
inductive Flow where
  | nx (σ : Slots) (st : Store)
  | bk (σ : Slots) (st : Store)
  | ct (σ : Slots) (st : Store)
  | rt (v : AV) (st : Store)
  | ex (e : AE) (σ : Slots) (st : Store)
  | bad
/-- what a pure def comes to -/
inductive PRes where
  | ok (p : PV) (fr : Bool)
  | ex (e : AE)
  | bad
abbrev DE := Slots → Store → Res AV
abbrev DA := Slots → Store → Res (List AV)
abbrev DT := Slots → Store → Res Bool
abbrev DS := Slots → Store → Flow
abbrev PDen := List PV → PRes
abbrev IDen := List AV → Store → Res AV

/-- the program's constants at K: where a class stands, the fields' names -/
structure Ct where
  K : PySem.W.Frag
  ca : Nat → Addr
  names : List Str
  nd : names.Nodup
  hs : ("#" : Str) ∉ names
  /-- the code objects of defs with lambdas, their tables, the lambdas' names -/
  TT : List (Addr × Addr × Str)
def Ct.T (c : Ct) : List (Addr × Str) := c.TT.map fun q => (q.2.1, q.2.2)
def Ct.fn (c : Ct) (f : Nat) : Str := c.names.getD f "#"
theorem Ct.fn_inj (c : Ct) {g f : Nat} (hf : f < c.names.length) (e : c.fn g = c.fn f) : g = f := by
  unfold Ct.fn at e
  rw [List.getD_eq_getElem?_getD, List.getD_eq_getElem?_getD, List.getElem?_eq_getElem hf] at e
  by_cases hg : g < c.names.length
  · rw [List.getElem?_eq_getElem hg] at e
    exact (List.getElem_inj c.nd).mp e
  · rw [List.getElem?_eq_none_iff.mpr (by omega)] at e
    exact absurd (by rw [show ("#" : Str) = c.names[f] from e]; exact List.getElem_mem hf) c.hs

def isMut : HO → Bool
  | .lst _ => true
  | .dK _ => true
  | .dT _ => true
  | .ins _ _ _ => true
  | .tbl _ => true
  | _ => false
/-- a table of code objects: it grows where a lambda is made -/
def isTab : HO → Bool
  | .tbl _ => true
  | _ => false
/-- an exception that was raised, as the heap tells it -/
def ExK (cls : Value) (d : Option Addr) (a : Addr) : HO := .ext fun h => ∃ (o : Obj) (vs : Array Value), h.get? a = some o ∧ Zc cls d o ∧ o.data = .fields vs
mutual
inductive Val (c : Ct) (L : Bool → Addr → Prop) (H : Hp) : PV → V → Prop
  | non : Val c L H .non .non
  | bl (b : Bool) : Val c L H (.bl b) (.bl b)
  | int (i : Int) : Val c L H (.int i) (.int i)
  | str (x : Str) : Val c L H (.str x) (.str x)
  | tup {a : Addr} {xs : List PV} {vs : List V} : H a = some (.tup vs) → Vls c L H xs vs → Val c L H (.tup xs) (.ref a)
  | lst {t : Bool} {a : Addr} {xs : List PV} {vs : List V} : H a = some (.lst vs) → L t a → Vls c L H xs vs → Val c L H (.lst t xs) (.ref a)
  | dct {t : Bool} {a : Addr} {ks : List Key} {xs : List PV} {vs : List V} : H a = some (.dK (ks.zip vs)) → vs.length = ks.length → L t a → Vls c L H xs vs → Val c L H (.dct t ks xs) (.ref a)
  | obj {t : Bool} {C : Nat} {a dx : Addr} {fs : List Nat} {xs : List PV} {vs : List V} : H a = some (.ins (c.ca C) dx ((fs.map c.fn).zip vs)) → vs.length = fs.length → L t a → Vls c L H xs vs → Val c L H (.obj t C fs xs) (.ref a)
  | scr {a : Addr} {ns : List Int} : ((∃ o, H a = some (.frz o (.lst (ns.map V.int))) ∧ L true a) ∨ SqL c.K (fun _ => none) a (ns.map V.int)) → Val c L H (.scr ns) (.ref a)
  | ty (n : String) : Val c L H (.ty n) (.ty n)
  | cls (C : Nat) : Val c L H (.cls C) (.ref (c.ca C))
  | exn {C : Nat} {a : Addr} : H a = some (ExK (.ref (c.ca C)) none a) → Val c L H (.exn C) (.ref a)
inductive Vls (c : Ct) (L : Bool → Addr → Prop) (H : Hp) : List PV → List V → Prop
  | nil : Vls c L H [] []
  | cons {x : PV} {v : V} {xs : List PV} {vs : List V} : Val c L H x v → Vls c L H xs vs → Vls c L H (x :: xs) (v :: vs)
end

section
variable {c : Ct} {L L' : Bool → Addr → Prop} {H H' : Hp}
theorem rd_imm (ki : ∀ a o, H a = some o → isMut o = false → H' a = some o) {a : Addr} {vs : List V} (h : Rd H a (.tup vs)) : Rd H' a (.tup vs) := by
  rcases h with h | ⟨o, h⟩
  · exact .inl (ki _ _ h rfl)
  · exact .inr ⟨o, ki _ _ h rfl⟩
theorem sqT_imm {K : PySem.W.Frag} (ki : ∀ a o, H a = some o → isMut o = false → H' a = some o) {a : Addr} {vs : List V} (h : SqT K H a vs) : SqT K H' a vs := by
  rcases h with h | h
  · exact .inl (rd_imm ki h)
  · exact .inr h
theorem some_ne {H : Hp} {a : Addr} {o : HO} (h : H a = some o) : H a ≠ none := by rw [h]; simp
mutual
theorem Val.mono (ki : ∀ a o, H a = some o → isMut o = false → H' a = some o) (kl : ∀ t a o, L t a → H a = some o → isTab o = false → H' a = some o) (kL : ∀ t a, L t a → H a ≠ none → L' t a) :
    ∀ {p : PV} {v : V}, Val c L H p v → Val c L' H' p v
  | _, _, .non => .non
  | _, _, .bl b => .bl b
  | _, _, .int i => .int i
  | _, _, .str x => .str x
  | _, _, .tup h r => .tup (ki _ _ h rfl) (Vls.mono ki kl kL r)
  | _, _, .lst h l r => .lst (kl _ _ _ l h rfl) (kL _ _ l (some_ne h)) (Vls.mono ki kl kL r)
  | _, _, .dct h z l r => .dct (kl _ _ _ l h rfl) z (kL _ _ l (some_ne h)) (Vls.mono ki kl kL r)
  | _, _, .obj h z l r => .obj (kl _ _ _ l h rfl) z (kL _ _ l (some_ne h)) (Vls.mono ki kl kL r)
  | _, _, .scr h => .scr (by
      rcases h with ⟨o, h, l⟩ | h
      · exact .inl ⟨o, ki _ _ h rfl, kL _ _ l (some_ne h)⟩
      · exact .inr h)
  | _, _, .ty n => .ty n
  | _, _, .cls C => .cls C
  | _, _, .exn h => .exn (ki _ _ h rfl)
theorem Vls.mono (ki : ∀ a o, H a = some o → isMut o = false → H' a = some o) (kl : ∀ t a o, L t a → H a = some o → isTab o = false → H' a = some o) (kL : ∀ t a, L t a → H a ≠ none → L' t a) :
    ∀ {ps : List PV} {vs : List V}, Vls c L H ps vs → Vls c L' H' ps vs
  | _, _, .nil => .nil
  | _, _, .cons h r => .cons (Val.mono ki kl kL h) (Vls.mono ki kl kL r)
end
/-- the same heap, another ground -/
theorem Val.ground (kL : ∀ t a, L t a → H a ≠ none → L' t a) {p : PV} {v : V} (h : Val c L H p v) : Val c L' H p v := Val.mono (fun _ _ h _ => h) (fun _ _ _ _ h _ => h) kL h
theorem Vls.ground (kL : ∀ t a, L t a → H a ≠ none → L' t a) {p : List PV} {v : List V} (h : Vls c L H p v) : Vls c L' H p v := Vls.mono (fun _ _ h _ => h) (fun _ _ _ _ h _ => h) kL h
theorem Vls.length : ∀ {ps : List PV} {vs : List V}, Vls c L H ps vs → ps.length = vs.length
  | _, _, .nil => rfl
  | _, _, .cons _ r => congrArg (· + 1) (Vls.length r)
theorem Vls.get : ∀ {ps : List PV} {vs : List V}, Vls c L H ps vs → ∀ {i : Nat} {p : PV}, ps[i]? = some p → ∃ v, vs[i]? = some v ∧ Val c L H p v
  | _, _, .nil, i, p, e => by simp at e
  | _, _, .cons h r, 0, p, e => by simp at e; subst e; exact ⟨_, rfl, h⟩
  | _, _, .cons h r, i + 1, p, e => by simpa using Vls.get r (i := i) (p := p) (by simpa using e)
theorem Vls.append : ∀ {ps qs : List PV} {vs us : List V}, Vls c L H ps vs → Vls c L H qs us → Vls c L H (ps ++ qs) (vs ++ us)
  | _, _, _, _, .nil, s => s
  | _, _, _, _, .cons h r, s => .cons h (Vls.append r s)
theorem Vls.drop : ∀ {ps : List PV} {vs : List V} (n : Nat), Vls c L H ps vs → Vls c L H (ps.drop n) (vs.drop n)
  | _, _, 0, r => r
  | _, _, _ + 1, .nil => .nil
  | _, _, n + 1, .cons _ r => Vls.drop n r
theorem Vls.take : ∀ {ps : List PV} {vs : List V} (n : Nat), Vls c L H ps vs → Vls c L H (ps.take n) (vs.take n)
  | _, _, 0, _ => .nil
  | _, _, _ + 1, .nil => .nil
  | _, _, n + 1, .cons h r => .cons h (Vls.take n r)
theorem Vls.reverse : ∀ {ps : List PV} {vs : List V}, Vls c L H ps vs → Vls c L H ps.reverse vs.reverse
  | _, _, .nil => .nil
  | _, _, .cons h r => by
    rw [List.reverse_cons, List.reverse_cons]
    exact Vls.append (Vls.reverse r) (.cons h .nil)
end

/-! ### the frame's constants -/
structure Fix where
  c : Ct
  A : Addr → Prop
  B : Addr → Prop
  /-- besides the store: what no value may name -/
  Z : Addr → Prop
  H0 : Hp
  O0 : Addr → Prop
  hA : ∀ p, H0 p = none → A p
abbrev LL (A B : Addr → Prop) : Bool → Addr → Prop := fun t a => if t = true then A a else B a
/-- which lists and objects a value may name -/
def Lw (F : Fix) (m : Nat → Addr) (N : Nat) : Bool → Addr → Prop := fun t a => LL F.A F.B t a ∧ ¬ F.Z a ∧ ∀ i, i < N → m i ≠ a
/-- a list made since H0 -/
def FreshP (c : Ct) (L : Bool → Addr → Prop) (H0 H : Hp) (p : PV) (v : V) : Prop :=
  ∃ t xs a vs, p = .lst t xs ∧ v = .ref a ∧ H0 a = none ∧ H a = some (.lst vs) ∧ Vls c (fun t b => L t b ∧ b ≠ a) H xs vs
/-- a value, whether fresh or not -/
inductive AVal0 (F : Fix) (m : Nat → Addr) (N : Nat) (H : Hp) : AV → V → Prop
  | v {p : PV} {fr : Bool} {x : V} : Val F.c (Lw F m N) H p x → AVal0 F m N H (.v p fr) x
  | ref {n : Nat} : n < N → AVal0 F m N H (.ref n) (.ref (m n))
inductive AVal (F : Fix) (m : Nat → Addr) (N : Nat) (H : Hp) : AV → V → Prop
  | v {p : PV} {fr : Bool} {x : V} : Val F.c (Lw F m N) H p x → (fr = true → FreshP F.c (Lw F m N) F.H0 H p x) → AVal F m N H (.v p fr) x
  | ref {n : Nat} : n < N → AVal F m N H (.ref n) (.ref (m n))
theorem AVal.zero {F : Fix} {m : Nat → Addr} {N : Nat} {H : Hp} {x : AV} {v : V} (h : AVal F m N H x v) : AVal0 F m N H x v := by
  cases h with
  | v h _ => exact .v h
  | ref h => exact .ref h
abbrev AVls (F : Fix) (m : Nat → Addr) (N : Nat) (H : Hp) : List AV → List V → Prop := Paired (AVal F m N H)
abbrev AVls0 (F : Fix) (m : Nat → Addr) (N : Nat) (H : Hp) : List AV → List V → Prop := Paired (AVal0 F m N H)
inductive AObj (F : Fix) (m : Nat → Addr) (N : Nat) (H : Hp) : AO → HO → Prop
  | lst {xs : List AV} {vs : List V} : AVls0 F m N H xs vs → AObj F m N H (.lst xs) (.lst vs)
  | dK {kvs : List (Key × AV)} {us : List (Key × V)} : Paired (fun p q => p.1 = q.1 ∧ AVal0 F m N H p.2 q.2) kvs us → AObj F m N H (.dK kvs) (.dK us)
  | dT {kvs : List (List Key × AV)} {us : List (List Key × V)} : Paired (fun p q => p.1 = q.1 ∧ AVal0 F m N H p.2 q.2) kvs us → AObj F m N H (.dT kvs) (.dT us)
  | ins {C : Nat} {dx : Addr} {fs : List (Nat × AV)} {us : List (Str × V)} : Paired (fun (p : Nat × AV) (q : Str × V) => F.c.fn p.1 = q.1 ∧ AVal0 F m N H p.2 q.2) fs us → AObj F m N H (.ins C fs) (.ins (F.c.ca C) dx us)
  | lk {kvs : List (List Key × AV)} {us : List (List Key × V)} {ob : Obj} : Paired (fun p q => p.1 = q.1 ∧ AVal0 F m N H p.2 q.2) kvs us → AObj F m N H (.lk kvs) (.frz ob (.dT us))
  | lkK {kvs : List (Key × AV)} {us : List (Key × V)} {ob : Obj} : Paired (fun p q => p.1 = q.1 ∧ AVal0 F m N H p.2 q.2) kvs us → AObj F m N H (.lkK kvs) (.frz ob (.dK us))
  | lkL {xs : List AV} {vs : List V} {ob : Obj} : AVls0 F m N H xs vs → AObj F m N H (.lkL xs) (.frz ob (.lst vs))
theorem AObj.mut {F : Fix} {m : Nat → Addr} {N : Nat} {H : Hp} {o : AO} {u : HO} (h : AObj F m N H o u) (hl : o.lkd = false) : isMut u = true := by
  cases h with
  | lk _ => cases hl
  | lkK _ => cases hl
  | lkL _ => cases hl
  | _ => rfl

theorem AObj.ntab {F : Fix} {m : Nat → Addr} {N : Nat} {H : Hp} {o : AO} {u : HO} (h : AObj F m N H o u) : isTab u = false := by
  cases h <;> rfl
theorem tabs_upd0 {T : List (Addr × Str)} {H : Hp} {a : Addr} {u u' : HO} (t : LamX.Tabs T H) (e : H a = some u) (hn : isTab u = false) (hc : ∀ c q, u ≠ LamX.CodeO c q) : LamX.Tabs T (upd H a u') := fun p hp => by
  obtain ⟨ps, h1, h2, h3⟩ := t p hp
  have n1 : p.1 ≠ a := fun z => by
    rw [z, e] at h1
    cases h1; cases hn
  refine ⟨ps, by rw [upd_ne n1]; exact h1, h2, fun pos cv hc' => ?_⟩
  obtain ⟨c, e1, e2⟩ := h3 pos cv hc'
  refine ⟨c, e1, ?_⟩
  have n2 : c ≠ a := fun z => by
    rw [z, e] at e2
    exact hc _ _ (Option.some.inj e2)
  rw [upd_ne n2]
  exact e2
theorem tabs_upd {T : List (Addr × Str)} {H : Hp} {a : Addr} {u u' : HO} (t : LamX.Tabs T H) (e : H a = some u) (hm : isMut u = true) (hn : isTab u = false) : LamX.Tabs T (upd H a u') :=
  tabs_upd0 t e hn fun c q z => by rw [z] at hm; cases hm
structure Rel (F : Fix) (m : Nat → Addr) (st : Store) (S : Slots) (σ : St) (H : Hp) : Prop where
  inj : ∀ i j, i < st.length → j < st.length → m i = m j → i = j
  own : ∀ i, i < st.length → F.O0 (m i) ∨ F.H0 (m i) = none
  keep : ∀ b o, F.H0 b = some o → ¬ F.O0 b → isTab o = false → H b = some o
  imm : ∀ b o, F.H0 b = some o → isMut o = false → H b = some o
  dom : ∀ b, F.H0 b ≠ none → H b ≠ none
  zd : ∀ b, F.Z b → H b ≠ none ∧ ∀ i, i < st.length → m i ≠ b
  sto : ∀ i o, st[i]? = some o → ∃ u, H (m i) = some u ∧ AObj F m st.length H o u
  len : S.length = σ.length
  slo : ∀ (i : Nat) (x : AV), S[i]? = some (some x) → ∃ v, σ[i]? = some (some v) ∧ AVal F m st.length H x v
  tab : LamX.Tabs F.c.T H
/-- from one state to a later one -/
structure Step (m : Nat → Addr) (N : Nat) (H : Hp) (m' : Nat → Addr) (N' : Nat) (H' : Hp) : Prop where
  le : N ≤ N'
  same : ∀ i, i < N → m' i = m i
  new : ∀ i, N ≤ i → i < N' → H (m' i) = none
  keep : ∀ b o, H b = some o → (∀ i, i < N → m i ≠ b) → isTab o = false → H' b = some o
  dom : ∀ b, H b ≠ none → H' b ≠ none
  imm : ∀ b o, H b = some o → isMut o = false → H' b = some o

section
variable {F : Fix} {m m1 m2 m' : Nat → Addr} {N N1 N2 N' : Nat} {H H1 H2 H' : Hp} {st : Store} {S : Slots} {σ : St}
theorem Step.refl : Step m N H m N H := ⟨Nat.le_refl _, fun _ _ => rfl, fun i h1 h2 => absurd h2 (by omega), fun _ _ h _ _ => h, fun _ h => h, fun _ _ h _ => h⟩
theorem Step.trans (a : Step m N H m1 N1 H1) (b : Step m1 N1 H1 m2 N2 H2) : Step m N H m2 N2 H2 where
  le := Nat.le_trans a.le b.le
  same := fun i h => (b.same i (Nat.lt_of_lt_of_le h a.le)).trans (a.same i h)
  new := fun i h1 h2 => by
    by_cases h : i < N1
    · rw [b.same i h]; exact a.new i h1 h
    · have z := b.new i (by omega) h2
      cases e : H (m2 i) with
      | none => rfl
      | some o => exact absurd z (a.dom _ (by rw [e]; simp))
  keep := fun x o h k nt => b.keep x o (a.keep x o h k nt) (fun i hi z => by
    by_cases h' : i < N
    · exact k i h' ((a.same i h').symm.trans z)
    · have := a.new i (by omega) hi
      rw [z, h] at this; cases this) nt
  dom := fun x h => b.dom x (a.dom x h)
  imm := fun x o h q => b.imm x o (a.imm x o h q) q
theorem Step.of (s : Same H H') : Step m N H m N H' :=
  ⟨Nat.le_refl _, fun _ _ => rfl, fun i h1 h2 => absurd h2 (by omega), fun b o h _ _ => s b o h, fun b h => by
    cases e : H b with
    | none => exact absurd e h
    | some o => exact some_ne (s b o e), fun b o h _ => s b o h⟩
/-- what a callee does to the heap: all is kept, but the tables may grow -/
structure Ext (c : Ct) (H H' : Hp) : Prop where
  keep : ∀ b o, H b = some o → isTab o = false → H' b = some o
  dom : ∀ b, H b ≠ none → H' b ≠ none
  tab : LamX.Tabs c.T H'
theorem Ext.of {c : Ct} (s : Same H H') (t : LamX.Tabs c.T H) : Ext c H H' := ⟨fun b o e _ => s b o e, fun b h => (Step.of (m := fun _ => 0) (N := 0) s).dom b h, t.ext s⟩
theorem Ext.trans {c : Ct} {H H1 H2 : Hp} (a : Ext c H H1) (b : Ext c H1 H2) : Ext c H H2 := ⟨fun x o e n => b.keep x o (a.keep x o e n) n, fun x e => b.dom x (a.dom x e), b.tab⟩
theorem isTab_mut {o : HO} (h : isMut o = false) : isTab o = false := by
  cases o <;> first | rfl | cases h
theorem Step.ext {c : Ct} (s : Ext c H H') : Step m N H m N H' :=
  ⟨Nat.le_refl _, fun _ _ => rfl, fun i h1 h2 => absurd h2 (by omega), fun b o h _ n => s.keep b o h n, s.dom, fun b o h q => s.keep b o h (isTab_mut q)⟩
theorem same_upd {p : Addr} {o : HO} (hp : H p = none) : Same H (upd H p o) := fun b u h => by rw [upd_ne (ne_of_none h hp)]; exact h

/-- values are kept by a step -/
theorem Lw.step (s : Step m N H m' N' H') {t : Bool} {a : Addr} (h : Lw F m N t a) (e : H a ≠ none) : Lw F m' N' t a := by
  refine ⟨h.1, h.2.1, fun i hi z => ?_⟩
  by_cases q : i < N
  · exact h.2.2 i q ((s.same i q).symm.trans z)
  · exact e (by rw [← z]; exact s.new i (by omega) hi)
theorem Val.step (s : Step m N H m' N' H') {p : PV} {v : V} (h : Val F.c (Lw F m N) H p v) : Val F.c (Lw F m' N') H' p v :=
  Val.mono s.imm (fun t a o l e => s.keep a o e l.2.2) (fun t a l e => Lw.step s l e) h
theorem Vls.step (s : Step m N H m' N' H') {p : List PV} {v : List V} (h : Vls F.c (Lw F m N) H p v) : Vls F.c (Lw F m' N') H' p v :=
  Vls.mono s.imm (fun t a o l e => s.keep a o e l.2.2) (fun t a l e => Lw.step s l e) h
theorem Val.lst_L {c : Ct} {L : Bool → Addr → Prop} {H : Hp} {t : Bool} {xs : List PV} {a : Addr} (h : Val c L H (.lst t xs) (.ref a)) : L t a := by
  cases h with
  | lst _ l _ => exact l
theorem AVal0.step (s : Step m N H m' N' H') {x : AV} {v : V} (h : AVal0 F m N H x v) : AVal0 F m' N' H' x v := by
  cases h with
  | v h => exact .v (Val.step s h)
  | ref h =>
    rw [← s.same _ h]
    exact .ref (Nat.lt_of_lt_of_le h s.le)
theorem AVal.step (s : Step m N H m' N' H') {x : AV} {v : V} (h : AVal F m N H x v) : AVal F m' N' H' x v := by
  cases h with
  | v h f =>
    refine .v (Val.step s h) fun e => ?_
    obtain ⟨t, xs, a, vs, rfl, rfl, h0, ha, r⟩ := f e
    have la := Val.lst_L h
    exact ⟨t, xs, a, vs, rfl, rfl, h0, s.keep a _ ha la.2.2 rfl, Vls.mono s.imm (fun t a o l e => s.keep a o e l.1.2.2) (fun t a l e => ⟨Lw.step s l.1 e, l.2⟩) r⟩
  | ref h =>
    rw [← s.same _ h]
    exact .ref (Nat.lt_of_lt_of_le h s.le)
theorem AVls.step (s : Step m N H m' N' H') {xs : List AV} {vs : List V} (h : AVls F m N H xs vs) : AVls F m' N' H' xs vs := Paired.mapP h fun _ _ => AVal.step s
theorem AVls0.step (s : Step m N H m' N' H') {xs : List AV} {vs : List V} (h : AVls0 F m N H xs vs) : AVls0 F m' N' H' xs vs := Paired.mapP h fun _ _ => AVal0.step s
theorem AVls.zero {xs : List AV} {vs : List V} (h : AVls F m N H xs vs) : AVls0 F m N H xs vs := Paired.mapP h fun _ _ => AVal.zero
theorem AObj.step (s : Step m N H m' N' H') {o : AO} {u : HO} (h : AObj F m N H o u) : AObj F m' N' H' o u := by
  cases h with
  | lst h => exact .lst (AVls0.step s h)
  | dK h => exact .dK (Paired.mapP h fun a b z => ⟨z.1, AVal0.step s z.2⟩)
  | dT h => exact .dT (Paired.mapP h fun a b z => ⟨z.1, AVal0.step s z.2⟩)
  | lk h => exact .lk (Paired.mapP h fun a b z => ⟨z.1, AVal0.step s z.2⟩)
  | lkK h => exact .lkK (Paired.mapP h fun a b z => ⟨z.1, AVal0.step s z.2⟩)
  | lkL h => exact .lkL (AVls0.step s h)
  | ins h => exact .ins (Paired.mapP h fun a b z => ⟨z.1, AVal0.step s z.2⟩)
/-- the same state at a later heap where all is kept -/
theorem Rel.same (R : Rel F m st S σ H) (s : Same H H') : Rel F m st S σ H' where
  inj := R.inj
  own := R.own
  keep := fun b o h1 h2 nt => s b o (R.keep b o h1 h2 nt)
  imm := fun b o h1 h2 => s b o (R.imm b o h1 h2)
  dom := fun b h => (Step.of (m := m) (N := 0) s).dom b (R.dom b h)
  zd := fun b h => ⟨(Step.of (m := m) (N := 0) s).dom b (R.zd b h).1, (R.zd b h).2⟩
  sto := fun i o e => by
    obtain ⟨u, h1, h2⟩ := R.sto i o e
    exact ⟨u, s _ _ h1, AObj.step (Step.of s) h2⟩
  len := R.len
  slo := fun i x e => by
    obtain ⟨v, h1, h2⟩ := R.slo i x e
    exact ⟨v, h1, AVal.step (Step.of s) h2⟩
  tab := R.tab.ext s
/-- the same state at a callee's later heap -/
theorem Rel.ext (R : Rel F m st S σ H) (s : Ext F.c H H') : Rel F m st S σ H' where
  inj := R.inj
  own := R.own
  keep := fun b o h1 h2 nt => s.keep b o (R.keep b o h1 h2 nt) nt
  imm := fun b o h1 h2 => s.keep b o (R.imm b o h1 h2) (isTab_mut h2)
  dom := fun b h => s.dom b (R.dom b h)
  zd := fun b h => ⟨s.dom b (R.zd b h).1, (R.zd b h).2⟩
  sto := fun i o e => by
    obtain ⟨u, h1, h2⟩ := R.sto i o e
    exact ⟨u, s.keep _ _ h1 h2.ntab, AObj.step (Step.ext s) h2⟩
  len := R.len
  slo := fun i x e => by
    obtain ⟨v, h1, h2⟩ := R.slo i x e
    exact ⟨v, h1, AVal.step (Step.ext s) h2⟩
  tab := s.tab
theorem Rel.at (R : Rel F m st S σ H) {i : Nat} (hi : i < st.length) : ∃ u, H (m i) = some u ∧ AObj F m st.length H st[i] u := R.sto i _ (List.getElem?_eq_getElem hi)
theorem Rel.nb (R : Rel F m st S σ H) {p : Addr} (hp : H p = none) : ∀ i, i < st.length → m i ≠ p := fun i hi z => by
  obtain ⟨u, h1, _⟩ := R.at hi
  rw [z, hp] at h1; cases h1
theorem Rel.h0 (R : Rel F m st S σ H) {p : Addr} (hp : H p = none) : F.H0 p = none := by
  cases e : F.H0 p with
  | none => rfl
  | some o => exact absurd hp (R.dom p (by rw [e]; simp))
theorem Rel.free (R : Rel F m st S σ H) {p : Addr} (hp : H p = none) : Lw F m st.length true p := by
  refine ⟨?_, fun z => (R.zd p z).1 hp, R.nb hp⟩
  show if true = true then F.A p else F.B p
  rw [if_pos rfl]; exact F.hA p (R.h0 hp)
/-- a new place of the store: the object at p, which was not there -/
theorem Rel.pushX (R : Rel F m st S σ H) {p : Addr} {o : AO} {u : HO} (hp : H p = none) (s : Ext F.c H H') (hu : H' p = some u)
    (ho : ∀ m', Step m st.length H m' (st.length + 1) H' → m' st.length = p → AObj F m' (st.length + 1) H' o u) :
    ∃ m', Step m st.length H m' (st ++ [o]).length H' ∧ Rel F m' (st ++ [o]) S σ H' ∧ m' st.length = p := by
  have hm : ∀ i, i < st.length → (fun j => if j = st.length then p else m j) i = m i := fun i hi => if_neg (by omega)
  have hme : (fun j => if j = st.length then p else m j) st.length = p := if_pos rfl
  generalize hmm : (fun j => if j = st.length then p else m j) = m' at hm hme
  have so := Step.ext (m := m) (N := st.length) s
  have hs : Step m st.length H m' (st.length + 1) H' := by
    refine ⟨Nat.le_succ _, hm, fun i h1 h2 => ?_, so.keep, so.dom, so.imm⟩
    have : i = st.length := by omega
    subst this; rw [hme]; exact hp
  have hl : (st ++ [o]).length = st.length + 1 := by simp
  refine ⟨m', by rw [hl]; exact hs, ?_, hme⟩
  refine ⟨fun i j hi hj e => ?_, fun i hi => ?_, fun b o' h1 h2 nt => s.keep b o' (R.keep b o' h1 h2 nt) nt, fun b o' h1 h2 => s.keep b o' (R.imm b o' h1 h2) (isTab_mut h2), fun b h => hs.dom b (R.dom b h), fun b h => ⟨hs.dom b (R.zd b h).1, fun i hi z => ?_⟩, fun i o' e => ?_, R.len, fun i x e => ?_, s.tab⟩
  · rw [hl] at hi hj
    by_cases a : i = st.length
    · by_cases b : j = st.length
      · rw [a, b]
      · rw [a, hme, hm j (by omega)] at e
        exact absurd e.symm (R.nb hp j (by omega))
    · by_cases b : j = st.length
      · rw [b, hme, hm i (by omega)] at e
        exact absurd e (R.nb hp i (by omega))
      · rw [hm i (by omega), hm j (by omega)] at e
        exact R.inj i j (by omega) (by omega) e
  · rw [hl] at hi
    by_cases a : i = st.length
    · subst a; rw [hme]; exact .inr (R.h0 hp)
    · rw [hm i (by omega)]; exact R.own i (by omega)
  · rw [hl] at hi
    by_cases a : i = st.length
    · subst a; rw [hme] at z; subst z; exact (R.zd p h).1 hp
    · rw [hm i (by omega)] at z; exact (R.zd b h).2 i (by omega) z
  · rw [hl]
    by_cases a : i = st.length
    · subst a
      rw [List.getElem?_append_right (Nat.le_refl _), Nat.sub_self] at e
      cases e
      exact ⟨u, by rw [hme]; exact hu, ho m' hs hme⟩
    · have hi : i < st.length := by
        have := (List.getElem?_eq_some_iff.mp e).1
        rw [hl] at this; omega
      rw [List.getElem?_append_left hi] at e
      obtain ⟨u', h1, h2⟩ := R.sto i o' e
      exact ⟨u', by rw [hm i hi]; exact s.keep _ _ h1 h2.ntab, AObj.step hs h2⟩
  · rw [hl]
    obtain ⟨v, h1, h2⟩ := R.slo i x e
    exact ⟨v, h1, AVal.step hs h2⟩
theorem Rel.push (R : Rel F m st S σ H) {p : Addr} {o : AO} {u : HO} (hp : H p = none) (s : Same H H') (hu : H' p = some u)
    (ho : ∀ m', Step m st.length H m' (st.length + 1) H' → m' st.length = p → AObj F m' (st.length + 1) H' o u) :
    ∃ m', Step m st.length H m' (st ++ [o]).length H' ∧ Rel F m' (st ++ [o]) S σ H' ∧ m' st.length = p := R.pushX hp (Ext.of s R.tab) hu ho
/-- a place of the store is written -/
theorem Rel.write (R : Rel F m st S σ H) {n : Nat} {o : AO} {u : HO} (hn : n < st.length) (ho : AObj F m st.length H o u) (hl : ∀ o, st[n]? = some o → o.lkd = false) :
    Step m st.length H m (st.set n o).length (upd H (m n) u) ∧ Rel F m (st.set n o) S σ (upd H (m n) u) := by
  obtain ⟨u0, h0, ao0⟩ := R.at hn
  have nt : ∀ b o, H b = some o → isMut o = false → b ≠ m n := fun b o h q z => by
    subst z
    rw [h0] at h; cases h
    rw [ao0.mut (hl _ (List.getElem?_eq_getElem hn))] at q; cases q
  have hs : Step m st.length H m st.length (upd H (m n) u) := by
    refine ⟨Nat.le_refl _, fun _ _ => rfl, fun i h1 h2 => absurd h2 (by omega), fun b o' h k _ => ?_, fun b h => ?_, fun b o' h q => ?_⟩
    · rw [upd_ne (fun z => k n hn z.symm)]; exact h
    · by_cases e : b = m n
      · rw [e, upd_same]; simp
      · rw [upd_ne e]; exact h
    · rw [upd_ne (nt b o' h q)]; exact h
  have hl0 := hl
  have hl : (st.set n o).length = st.length := by simp
  rw [hl]
  refine ⟨hs, ?_⟩
  refine ⟨fun i j hi hj => R.inj i j (by simpa using hi) (by simpa using hj), fun i hi => R.own i (by simpa using hi), fun b o' h1 h2 nt => ?_, fun b o' h1 h2 => hs.imm b o' (R.imm b o' h1 h2) h2, fun b h => hs.dom b (R.dom b h), fun b h => ⟨hs.dom b (R.zd b h).1, fun i hi => (R.zd b h).2 i (by simpa using hi)⟩, fun i o' e => ?_, R.len, fun i x e => ?_, tabs_upd R.tab h0 (ao0.mut (hl0 _ (List.getElem?_eq_getElem hn))) (ao0.ntab)⟩
  · refine hs.keep b o' (R.keep b o' h1 h2 nt) (fun i hi z => ?_) nt
    rcases R.own i hi with q | q
    · exact h2 (z ▸ q)
    · rw [z, h1] at q; cases q
  · rw [hl]
    by_cases a : i = n
    · subst a
      rw [List.getElem?_set_self hn] at e
      cases e
      exact ⟨u, upd_same, AObj.step hs ho⟩
    · rw [List.getElem?_set_ne (Ne.symm a)] at e
      obtain ⟨u', h1, h2⟩ := R.sto i o' e
      have hi := (List.getElem?_eq_some_iff.mp e).1
      exact ⟨u', by rw [upd_ne (fun z => a (R.inj i n hi hn z))]; exact h1, AObj.step hs h2⟩
  · rw [hl]
    obtain ⟨v, h1, h2⟩ := R.slo i x e
    exact ⟨v, h1, AVal.step hs h2⟩
/-- a slot is set -/
theorem Rel.slot (R : Rel F m st S σ H) {i : Nat} {x : AV} {v : V} (h : AVal F m st.length H x v) : Rel F m st (S.set i (some x)) (σ.set i (some v)) H where
  inj := R.inj
  own := R.own
  keep := R.keep
  imm := R.imm
  dom := R.dom
  zd := R.zd
  sto := R.sto
  len := by simpa using R.len
  tab := R.tab
  slo := fun j y e => by
    by_cases a : j = i
    · subst a
      have hj : j < S.length := by
        have := (List.getElem?_eq_some_iff.mp e).1
        simpa using this
      rw [List.getElem?_set_self hj] at e
      cases e
      exact ⟨v, by rw [List.getElem?_set_self (by rw [← R.len]; exact hj)], h⟩
    · rw [List.getElem?_set_ne (Ne.symm a)] at e
      rw [List.getElem?_set_ne (Ne.symm a)]
      exact R.slo j y e
theorem Rel.unslot (R : Rel F m st S σ H) {i : Nat} : Rel F m st (S.set i none) (σ.set i none) H where
  inj := R.inj
  own := R.own
  keep := R.keep
  imm := R.imm
  dom := R.dom
  zd := R.zd
  sto := R.sto
  len := by simpa using R.len
  tab := R.tab
  slo := fun j y e => by
    by_cases a : j = i
    · subst a
      have hj : j < S.length := by
        have := (List.getElem?_eq_some_iff.mp e).1
        simpa using this
      rw [List.getElem?_set_self hj] at e
      cases e
    · rw [List.getElem?_set_ne (Ne.symm a)] at e
      rw [List.getElem?_set_ne (Ne.symm a)]
      exact R.slo j y e
/-- other slots -/
theorem Rel.slots (R : Rel F m st S σ H) {S' : Slots} {σ' : St} (hl : S'.length = σ'.length) (h : ∀ (i : Nat) (x : AV), S'[i]? = some (some x) → ∃ v, σ'[i]? = some (some v) ∧ AVal F m st.length H x v) : Rel F m st S' σ' H :=
  ⟨R.inj, R.own, R.keep, R.imm, R.dom, R.zd, R.sto, hl, h, R.tab⟩
/-- the slots are forgotten -/
theorem Rel.bare (R : Rel F m st S σ H) : Rel F m st [] [] H := R.slots rfl fun j y e => by simp at e
/-- one address more that no value may name: a new one -/
abbrev Fix.av (F : Fix) (a : Addr) : Fix := { F with Z := fun b => F.Z b ∨ b = a }
theorem Val.av {p : PV} {v : V} {a : Addr} (h : Val F.c (Lw F m N) H p v) (ha : H a = none) : Val F.c (Lw (F.av a) m N) H p v :=
  Val.ground (fun t b l e => ⟨l.1, fun z => z.elim l.2.1 fun z => e (z ▸ ha), l.2.2⟩) h
theorem Vls.av {p : List PV} {v : List V} {a : Addr} (h : Vls F.c (Lw F m N) H p v) (ha : H a = none) : Vls F.c (Lw (F.av a) m N) H p v :=
  Vls.ground (fun t b l e => ⟨l.1, fun z => z.elim l.2.1 fun z => e (z ▸ ha), l.2.2⟩) h
theorem Val.unav {p : PV} {v : V} {a : Addr} (h : Val F.c (Lw (F.av a) m N) H p v) : Val F.c (Lw F m N) H p v :=
  Val.ground (fun t b l e => ⟨l.1, fun z => l.2.1 (.inl z), l.2.2⟩) h
theorem Vls.unav {p : List PV} {v : List V} {a : Addr} (h : Vls F.c (Lw (F.av a) m N) H p v) : Vls F.c (fun t b => Lw F m N t b ∧ b ≠ a) H p v :=
  Vls.ground (fun t b l e => ⟨⟨l.1, fun z => l.2.1 (.inl z), l.2.2⟩, fun z => l.2.1 (.inr z)⟩) h
/-- another ground for the values (the store's places are the same) -/
theorem AVal.ground {F' : Fix} (hc : F'.c = F.c) (h0 : ∀ a, F.H0 a = none → H a ≠ none → F'.H0 a = none) (kL : ∀ t a, Lw F m N t a → H a ≠ none → Lw F' m N t a) {x : AV} {v : V} (h : AVal F m N H x v) : AVal F' m N H x v := by
  cases h with
  | v h f =>
    refine .v (by rw [hc]; exact Val.ground kL h) fun e => ?_
    obtain ⟨t, xs, a, vs, rfl, rfl, q, ha, r⟩ := f e
    exact ⟨t, xs, a, vs, rfl, rfl, h0 a q (some_ne ha), ha, by rw [hc]; exact Vls.ground (fun t a l e => ⟨kL t a l.1 e, l.2⟩) r⟩
  | ref h => exact .ref h
theorem AVal0.ground {F' : Fix} (hc : F'.c = F.c) (kL : ∀ t a, Lw F m N t a → H a ≠ none → Lw F' m N t a) {x : AV} {v : V} (h : AVal0 F m N H x v) : AVal0 F' m N H x v := by
  cases h with
  | v h => exact .v (by rw [hc]; exact Val.ground kL h)
  | ref h => exact .ref h
theorem AObj.ground {F' : Fix} (hc : F'.c = F.c) (kL : ∀ t a, Lw F m N t a → H a ≠ none → Lw F' m N t a) {o : AO} {u : HO} (h : AObj F m N H o u) : AObj F' m N H o u := by
  cases h with
  | lst h => exact .lst (Paired.mapP h fun _ _ => AVal0.ground hc kL)
  | dK h => exact .dK (Paired.mapP h fun a b z => ⟨z.1, AVal0.ground hc kL z.2⟩)
  | dT h => exact .dT (Paired.mapP h fun a b z => ⟨z.1, AVal0.ground hc kL z.2⟩)
  | lk h => exact .lk (Paired.mapP h fun a b z => ⟨z.1, AVal0.ground hc kL z.2⟩)
  | lkK h => exact .lkK (Paired.mapP h fun a b z => ⟨z.1, AVal0.ground hc kL z.2⟩)
  | lkL h => exact .lkL (Paired.mapP h fun _ _ => AVal0.ground hc kL)
  | ins h => rw [← hc]; exact .ins (Paired.mapP h fun a b z => ⟨by rw [hc]; exact z.1, AVal0.ground hc kL z.2⟩)
theorem Rel.av (R : Rel F m st S σ H) {a : Addr} (ha : H a = none) (s : Same H H') (ha' : H' a ≠ none) : Rel (F.av a) m st S σ H' :=
  have kL : ∀ t b, Lw F m st.length t b → H b ≠ none → Lw (F.av a) m st.length t b := fun t b l e => ⟨l.1, fun z => z.elim l.2.1 fun z => e (z ▸ ha), l.2.2⟩
  have R' := R.same s
  ⟨R.inj, R.own, R'.keep, R'.imm, R'.dom, fun b h => h.elim (fun z => R'.zd b z) fun z => z ▸ ⟨ha', R.nb ha⟩, fun i o e =>
    have ⟨u, h1, h2⟩ := R.sto i o e
    ⟨u, s _ _ h1, AObj.step (Step.of s) (AObj.ground (F := F) (F' := F.av a) rfl kL h2)⟩, R.len, fun i x e =>
    have ⟨v, h1, h2⟩ := R.slo i x e
    ⟨v, h1, AVal.step (Step.of s) (AVal.ground (F := F) (F' := F.av a) rfl (fun _ z _ => z) kL h2)⟩, R'.tab⟩
theorem Rel.unav {a : Addr} (R : Rel (F.av a) m st S σ H) : Rel F m st S σ H :=
  have kL : ∀ t b, Lw (F.av a) m st.length t b → H b ≠ none → Lw F m st.length t b := fun t b l e => ⟨l.1, fun z => l.2.1 (.inl z), l.2.2⟩
  ⟨R.inj, R.own, R.keep, R.imm, R.dom, fun b h => R.zd b (.inl h), fun i o e =>
    have ⟨u, h1, h2⟩ := R.sto i o e
    ⟨u, h1, AObj.ground (F := F.av a) (F' := F) rfl kL h2⟩, R.len, fun i x e =>
    have ⟨v, h1, h2⟩ := R.slo i x e
    ⟨v, h1, AVal.ground (F := F.av a) (F' := F) rfl (fun _ z _ => z) kL h2⟩, R.tab⟩
end
end A

/-! The A-layer, part 1: judgements by denotations; statements; names, constants. -/
namespace A
open PySem PySem.Spec PyProof.Rows L2

def Res.then {α β : Type} (r : Res α) (k : α → Store → Res β) : Res β := match r with
  | .ok a st => k a st
  | .ex e st => .ex e st
  | .bad => .bad
/-- how an error lies: its class, its own dict -/
def ERep (c : Ct) (L : Bool → Addr → Prop) (H : Hp) (e : AE) (cls : Value) (d : Option Addr) : Prop :=
  cls = .ref (c.ca e.C) ∧ ((e.fs = [] ∧ d = none) ∨ e.fs ≠ [] ∧ ∃ dx us, d = some dx ∧ H dx = some (.xd us) ∧ ∀ f p, e.fs.lookup f = some p → ∃ v, us.lookup (c.fn f) = some v ∧ Val c L H p v)
theorem ERep.mono {c : Ct} {L L' : Bool → Addr → Prop} {H H' : Hp} (ki : ∀ a o, H a = some o → isMut o = false → H' a = some o) (kl : ∀ t a o, L t a → H a = some o → isTab o = false → H' a = some o) (kL : ∀ t a, L t a → H a ≠ none → L' t a)
    {e : AE} {cls : Value} {d : Option Addr} (h : ERep c L H e cls d) : ERep c L' H' e cls d := by
  obtain ⟨h1, h2⟩ := h
  refine ⟨h1, ?_⟩
  rcases h2 with h2 | ⟨hne, dx, us, hd, hx, hf⟩
  · exact .inl h2
  · refine .inr ⟨hne, dx, us, hd, ki _ _ hx rfl, fun f p e => ?_⟩
    obtain ⟨v, a, b⟩ := hf f p e
    exact ⟨v, a, Val.mono ki kl kL b⟩
abbrev VRel (α β : Type) := Fix → (Nat → Addr) → Nat → Hp → α → β → Prop
/-- what is wanted of a result -/
def PostE {α β : Type} (rel : VRel α β) (W : WX) (F : Fix) (m : Nat → Addr) (N : Nat) (H : Hp) (S : Slots) (σ : St) (r : Res α) (Q : β → Hp → Prop) : Prop :=
  match r with
  | .ok x st' => ∀ m' v H', Step m N H m' st'.length H' → Rel F m' st' S σ H' → rel F m' st'.length H' x v → Q v H'
  | .ex e st' => ∀ m' H' cls d, Step m N H m' st'.length H' → Rel F m' st' S σ H' → ERep F.c (Lw F m' st'.length) H' e cls d → W cls d σ H'
  | .bad => False
/-- the reading that a denotation makes -/
def tG {α β : Type} (rel : VRel α β) (c : Ct) (W : WX) (d : Slots → Store → Res α) : St → Hp → (β → Hp → Prop) → Prop := fun σ H Q =>
  ∃ F m st S, F.c = c ∧ Rel F m st S σ H ∧ PostE rel W F m st.length H S σ (d S st) Q
abbrev rB : VRel Bool Bool := fun _ _ _ _ a b => a = b
abbrev rV : VRel AV V := AVal
abbrev rA : VRel (List AV) (List V) := AVls
section
variable {α β γ δ : Type} {rel : VRel α β} {rel2 : VRel γ δ} {W : WX} {F : Fix} {m m1 : Nat → Addr} {N N1 : Nat} {H H1 : Hp} {S : Slots} {σ : St} {st : Store} {r : Res α} {Q Q' : β → Hp → Prop}
theorem PostE.shift (s : Step m N H m1 N1 H1) (h : PostE rel W F m N H S σ r Q) : PostE rel W F m1 N1 H1 S σ r Q := by
  cases r with
  | ok x st' => exact fun m' v H' a b c => h m' v H' (s.trans a) b c
  | ex e st' => exact fun m' H' cls d a b c => h m' H' cls d (s.trans a) b c
  | bad => exact h
theorem PostE.imp (h : PostE rel W F m N H S σ r Q) (hQ : ∀ v H, Q v H → Q' v H) : PostE rel W F m N H S σ r Q' := by
  cases r with
  | ok x st' => exact fun m' v H' a b c => hQ _ _ (h m' v H' a b c)
  | ex e st' => exact h
  | bad => exact h
theorem PostE.bind {k : α → Store → Res γ} {Q : δ → Hp → Prop} (h : PostE rel2 W F m N H S σ (r.then k) Q) :
    PostE rel W F m N H S σ r fun v H1 => ∃ m1 st1 x, r = .ok x st1 ∧ Step m N H m1 st1.length H1 ∧ Rel F m1 st1 S σ H1 ∧ rel F m1 st1.length H1 x v ∧ PostE rel2 W F m1 st1.length H1 S σ (k x st1) Q := by
  cases r with
  | ok x st1 => exact fun m1 v H1 a b c => ⟨m1, st1, x, rfl, a, b, c, PostE.shift a h⟩
  | ex e st1 => exact h
  | bad => exact h
/-- a value, the state as it is -/
theorem PostE.here {x : α} {v : β} (h : PostE rel W F m st.length H S σ (.ok x st) Q) (R : Rel F m st S σ H) (hr : rel F m st.length H x v) : Q v H := h m v H Step.refl R hr
end

/-! ### judgements -/
abbrev PEA (X : Cx) (c : Ct) (W : WX) (e : Expr) (d : DE) : Prop := PE X e (tG rV c W d)
abbrev PTA (X : Cx) (c : Ct) (W : WX) (e : Expr) (d : DT) : Prop := PT X e (tG rB c W d)
abbrev PAA (X : Cx) (c : Ct) (W : WX) (es : List Expr) (d : DA) : Prop := PA X es (tG rA c W d)
theorem _root_.L2.PE.imp {X : Cx} {e : Expr} {t t' : TE} (h : PE X e t) (f : ∀ σ H Q, t' σ H Q → t σ H Q) : PE X e t' := ⟨fun pins s σ H Q I hw => h.run pins s σ H Q I (f σ H Q hw)⟩
theorem _root_.L2.PT.imp {X : Cx} {e : Expr} {t t' : TT} (h : PT X e t) (f : ∀ σ H Q, t' σ H Q → t σ H Q) : PT X e t' := ⟨fun pins s σ H Q I hw => h.run pins s σ H Q I (f σ H Q hw)⟩
theorem _root_.L2.PW.imp {X : Cx} {e : Expr} {t t' : TT} (h : PW X e t) (f : ∀ σ H Q, t' σ H Q → t σ H Q) : PW X e t' := ⟨fun wh pins s σ H Q I hw => h.run wh pins s σ H Q I (f σ H Q hw)⟩
theorem _root_.L2.PA.imp {X : Cx} {e : List Expr} {t t' : TA} (h : PA X e t) (f : ∀ σ H Q, t' σ H Q → t σ H Q) : PA X e t' := ⟨fun p pins s σ H Q I hw => h.run p pins s σ H Q I (f σ H Q hw)⟩
theorem _root_.L2.PS.imp {X : Cx} {e : Stmt} {t t' : TS} (h : PS X e t) (f : ∀ D σ H, t' D σ H → t D σ H) : PS X e t' := ⟨fun pins s σ H D I hw => h.run pins s σ H D I (f D σ H hw)⟩
theorem _root_.L2.PSs.imp {X : Cx} {e : List Stmt} {t t' : TS} (h : PSs X e t) (f : ∀ D σ H, t' D σ H → t D σ H) : PSs X e t' := ⟨fun pins s σ H D I hw => h.run pins s σ H D I (f D σ H hw)⟩

/-- what is wanted behind a statement's result -/
def PostS (W : WX) (F : Fix) (m : Nat → Addr) (N : Nat) (H : Hp) (r : Flow) (D : Ends) : Prop :=
  match r with
  | .nx S st' => ∀ m' σ' H', Step m N H m' st'.length H' → Rel F m' st' S σ' H' → D.nx σ' H'
  | .bk S st' => ∀ m' σ' H', Step m N H m' st'.length H' → Rel F m' st' S σ' H' → D.bk σ' H'
  | .ct S st' => ∀ m' σ' H', Step m N H m' st'.length H' → Rel F m' st' S σ' H' → D.ct σ' H'
  | .rt x st' => ∀ m' v H', Step m N H m' st'.length H' → Rel F m' st' [] [] H' → AVal F m' st'.length H' x v → D.rt v H'
  | .ex e S st' => ∀ m' σ' H' cls d, Step m N H m' st'.length H' → Rel F m' st' S σ' H' → ERep F.c (Lw F m' st'.length) H' e cls d → W cls d σ' H'
  | .bad => False
def tS (c : Ct) (W : WX) (d : DS) : TS := fun D σ H => ∃ F m st S, F.c = c ∧ Rel F m st S σ H ∧ PostS W F m st.length H (d S st) D
abbrev PSA (X : Cx) (c : Ct) (W : WX) (s : Stmt) (d : DS) : Prop := PS X s (tS c W d)
abbrev PSsA (X : Cx) (c : Ct) (W : WX) (s : List Stmt) (d : DS) : Prop := PSs X s (tS c W d)
theorem PostS.shift {W : WX} {F : Fix} {m m1 : Nat → Addr} {N N1 : Nat} {H H1 : Hp} {r : Flow} {D : Ends} (s : Step m N H m1 N1 H1) (h : PostS W F m N H r D) : PostS W F m1 N1 H1 r D := by
  cases r with
  | nx S st' => exact fun m' σ' H' a b => h m' σ' H' (s.trans a) b
  | bk S st' => exact fun m' σ' H' a b => h m' σ' H' (s.trans a) b
  | ct S st' => exact fun m' σ' H' a b => h m' σ' H' (s.trans a) b
  | rt x st' => exact fun m' v H' a b c => h m' v H' (s.trans a) b c
  | ex e S st' => exact fun m' σ' H' cls d a b c => h m' σ' H' cls d (s.trans a) b c
  | bad => exact h

/-- what the rules ask of the context: constants, room -/
structure Cn (X : Cx) (c : Ct) : Prop where
  K : c.K = X.K
  calm : X.calm = true
  nd : X.N.Nodup
  pas : PassesOwn (model X.prog X.w) X.A X.env X.xe
  room : Room 40 X.A
  no : X.base.NoSeer
  tree : X.prog.given.tree = none
  stk : ∃ e l, X.stack = e :: l ∧ e.scope.isGenerator = false ∧ e.scope.isCoroutine = false ∧ e.builtins = builtinsNs ∧ e.globals = mainGlobals

/-! ### statements -/
section
variable {X : Cx} {c : Ct} {W : WX} {st : Stmt} {rest : List Stmt} {d d1 d2 : DS} {e : Expr} {de : DE} {pos : Pos}
def dNext : DS := fun S st => .nx S st
/-- one after another -/
def dSeq (d1 d2 : DS) : DS := fun S st => match d1 S st with
  | .nx S' st' => d2 S' st'
  | r => r
theorem pssa_nil : PSsA X c W [] dNext := pss_nil.imp fun D σ H ⟨F, m, st, S, hc, R, P⟩ => P m σ H Step.refl R
theorem pssa_one (h : PSA X c W st d) : PSsA X c W [st] d := pss_one h
theorem pssa_cons (h1 : PSA X c W st d1) (h2 : PSsA X c W rest d2) : PSsA X c W (st :: rest) (dSeq d1 d2) := (pss_cons h1 h2).imp fun D σ H ⟨F, m, s, S, hc, R, P⟩ => by
  refine ⟨F, m, s, S, hc, R, ?_⟩
  unfold dSeq at P
  cases e : d1 S s with
  | nx S' st' =>
    rw [e] at P
    exact fun m' σ' H' a b => ⟨F, m', st', S', hc, b, PostS.shift a P⟩
  | bk S' st' => rw [e] at P; exact P
  | ct S' st' => rw [e] at P; exact P
  | rt x st' => rw [e] at P; exact P
  | ex x S' st' => rw [e] at P; exact P
  | bad => rw [e] at P; exact P
theorem psa_pass : PSA X c W (.Pass pos) dNext := ps_pass.imp fun D σ H ⟨F, m, st, S, hc, R, P⟩ => P m σ H Step.refl R
def dBreak : DS := fun S st => .bk S st
def dCont : DS := fun S st => .ct S st
theorem psa_break : PSA X c W (.Break pos) dBreak := ps_break.imp fun D σ H ⟨F, m, st, S, hc, R, P⟩ => P m σ H Step.refl R
theorem psa_continue : PSA X c W (.Continue pos) dCont := ps_continue.imp fun D σ H ⟨F, m, st, S, hc, R, P⟩ => P m σ H Step.refl R
/-- from an expression to a statement -/
def Res.flow {α : Type} (S : Slots) (r : Res α) (k : α → Store → Flow) : Flow := match r with
  | .ok x st => k x st
  | .ex e st => .ex e S st
  | .bad => .bad
theorem PostS.bind {α β : Type} {rel : VRel α β} {F : Fix} {m : Nat → Addr} {N : Nat} {H : Hp} {S : Slots} {σ : St} {r : Res α} {k : α → Store → Flow} {D : Ends} (h : PostS W F m N H (r.flow S k) D) :
    PostE rel W F m N H S σ r fun v H1 => ∃ m1 st1 x, r = .ok x st1 ∧ Step m N H m1 st1.length H1 ∧ Rel F m1 st1 S σ H1 ∧ rel F m1 st1.length H1 x v ∧ PostS W F m1 st1.length H1 (k x st1) D := by
  cases r with
  | ok x st1 => exact fun m1 v H1 a b c => ⟨m1, st1, x, rfl, a, b, c, PostS.shift a h⟩
  | ex e st1 => exact fun m' H' cls d a b c => h m' σ H' cls d a b c
  | bad => exact h
def dExpr (de : DE) : DS := fun S st => (de S st).flow S fun _ st1 => .nx S st1
theorem psa_expr (he : PEA X c W e de) (hs : swapsWith e none pos.line X.env = pure false := by rfl) : PSA X c W (.Expr e pos) (dExpr de) := (ps_expr he hs).imp fun D σ H ⟨F, m, s, S, hc, R, P⟩ =>
  ⟨F, m, s, S, hc, R, (PostS.bind P).imp fun v H1 ⟨m1, st1, x, _, a, b, r, P1⟩ => P1 m1 σ H1 Step.refl b⟩
def dRet (de : DE) : DS := fun S st => (de S st).flow S fun x st1 => .rt x st1
theorem psa_ret (he : PEA X c W e de) : PSA X c W (.Return (some e) pos) (dRet de) := (ps_ret he).imp fun D σ H ⟨F, m, s, S, hc, R, P⟩ =>
  ⟨F, m, s, S, hc, R, (PostS.bind P).imp fun v H1 ⟨m1, st1, x, _, a, b, r, P1⟩ => P1 m1 v H1 Step.refl b.bare r⟩
def dRetN : DS := fun S st => .rt (.v .non false) st
theorem psa_retN : PSA X c W (.Return none pos) dRetN := ps_retN.imp fun D σ H ⟨F, m, st, S, hc, R, P⟩ => P m .non H Step.refl R.bare (.v .non fun e => nomatch e)
def dIf (dt : DT) (d1 d2 : DS) : DS := fun S st => (dt S st).flow S fun b st1 => bif b then d1 S st1 else d2 S st1
theorem psa_if {t : Expr} {a b : List Stmt} {dt : DT} (ht : PTA X c W t dt) (ha : PSsA X c W a d1) (hb : PSsA X c W b d2) : PSA X c W (.If t a b pos) (dIf dt d1 d2) := (ps_if ht ha hb).imp fun D σ H ⟨F, m, s, S, hc, R, P⟩ =>
  ⟨F, m, s, S, hc, R, (PostS.bind P).imp fun v H1 ⟨m1, st1, x, _, s1, R1, r, P1⟩ => by
    have r : x = v := r
    subst r
    cases x with
    | true => exact ⟨F, m1, st1, S, hc, R1, P1⟩
    | false => exact ⟨F, m1, st1, S, hc, R1, P1⟩⟩
/-- name = value -/
def dSet (i : Nat) (de : DE) : DS := fun S st => (de S st).flow S fun x st1 => .nx (S.set i (some x)) st1
theorem psa_setQ (nd : X.N.Nodup) {i : Nat} {x : Str} {pos' : Pos} (he : PEA X c W e de) (hi : X.N[i]? = some x := by rfl) (hx : Loc X.env.scope x := by first | exact Or.inl rfl | exact Or.inr rfl) (hs : swapsWith e (some (.Name x pos')) pos.line X.env = pure false := by rfl)
    (hf : X.fn x = true ∨ X.env.scope.names.lookup x = some .local := by first | exact .inl rfl | exact .inr rfl) : PSA X c W (.Assign [.Name x pos'] e pos) (dSet i de) := (ps_set nd hi hx he hs hf).imp fun D σ H ⟨F, m, s, S, hc, R, P⟩ =>
  ⟨F, m, s, S, hc, R, (PostS.bind P).imp fun v H1 ⟨m1, st1, x, _, a, b, r, P1⟩ => P1 m1 _ H1 Step.refl (b.slot r)⟩
theorem psa_set (cn : Cn X c) {i : Nat} {x : Str} {pos' : Pos} (he : PEA X c W e de) (hi : X.N[i]? = some x := by rfl) (hx : Loc X.env.scope x := by first | exact Or.inl rfl | exact Or.inr rfl) (hs : swapsWith e (some (.Name x pos')) pos.line X.env = pure false := by rfl)
    (hf : X.fn x = true ∨ X.env.scope.names.lookup x = some .local := by first | exact .inl rfl | exact .inr rfl) : PSA X c W (.Assign [.Name x pos'] e pos) (dSet i de) := psa_setQ cn.nd he hi hx hs hf
end

/-! ### while -/
section
variable {X : Cx} {c : Ct} {W : WX} {pos : Pos}
def whileN (t : DT) (b : DS) : Nat → DS
  | 0, _, _ => .bad
  | n + 1, S, st => (t S st).flow S fun k st1 => bif k then (match b S st1 with
      | .nx S' st' => whileN t b n S' st'
      | .ct S' st' => whileN t b n S' st'
      | .bk S' st' => .nx S' st'
      | r => r) else .nx S st1
/-- while, with a bound of its turns -/
def dWhile (μ : Slots → Store → Nat) (t : DT) (b : DS) : DS := fun S st => whileN t b (μ S st) S st
theorem psa_while (cn : Cn X c) {t : Expr} {body : List Stmt} {dt : DT} {db : DS} (μ : Slots → Store → Nat) (ht : PTA X c W t dt) (hb : PSsA X c W body db) : PSA X c W (.While t body [] pos) (dWhile μ dt db) := (ps_while cn.pas ht hb).imp fun D σ H ⟨F, m, s, S, hc, R, P⟩ => by
  refine ⟨fun n σ H => ∃ m st S, Rel F m st S σ H ∧ PostS W F m st.length H (whileN dt db n S st) D, ⟨_, m, s, S, R, P⟩, ?_⟩
  rintro n σ1 H1 ⟨m1, s1, S1, R1, P1⟩
  cases n with
  | zero => exact P1.elim
  | succ n =>
    refine ⟨F, m1, s1, S1, hc, R1, (PostS.bind P1).imp fun v H2 ⟨m2, s2, k, _, a, R2, r, P2⟩ => ?_⟩
    have r : k = v := r
    subst r
    cases k with
    | false => exact P2 m2 σ1 H2 Step.refl R2
    | true =>
      rw [if_pos rfl]
      refine ⟨fun σ' H' => ∃ m st S, Rel F m st S σ' H' ∧ PostS W F m st.length H' (whileN dt db n S st) D, fun σ' H' q => ⟨n, Nat.lt_succ_self _, q⟩, F, m2, s2, S1, hc, R2, ?_⟩
      simp only [cond_true] at P2
      cases e : db S1 s2 with
      | nx S' st' => rw [e] at P2; exact fun m' σ' H' a b => ⟨m', st', S', b, PostS.shift a P2⟩
      | ct S' st' => rw [e] at P2; exact fun m' σ' H' a b => ⟨m', st', S', b, PostS.shift a P2⟩
      | bk S' st' => rw [e] at P2; exact P2
      | rt x st' => rw [e] at P2; exact P2
      | ex x S' st' => rw [e] at P2; exact P2
      | bad => rw [e] at P2; exact P2
end

/-! ### names, constants -/
section
variable {X : Cx} {c : Ct} {W : WX} {pos : Pos}
def dVar (i : Nat) : DE := fun S st => match S[i]? with
  | some (some x) => .ok x st
  | _ => .bad
def dC (p : PV) : DE := fun _ st => .ok (.v p false) st
theorem pea_var (i : Nat) {x : Str} (hN : X.N[i]? = some x := by rfl) (hv : Vis X.env.scope x := by first | exact Or.inl rfl | exact Or.inr (Or.inl rfl) | exact Or.inr (Or.inr rfl)) (hd : (x == ("__debug__" : Str)) = false := by decide)
    (hcd : (x == ("__classdict__" : Str)) = false := by decide) : PEA X c W (.Name x pos) (dVar i) := (pe_var hN hv hd hcd).imp fun σ H Q ⟨F, m, s, S, hc, R, P⟩ => by
  unfold dVar at P
  cases e : S[i]? with
  | none => rw [e] at P; exact P.elim
  | some o =>
    cases o with
    | none => rw [e] at P; exact P.elim
    | some x =>
      rw [e] at P
      obtain ⟨v, h1, h2⟩ := R.slo i x e
      exact ⟨v, h1, PostE.here P R h2⟩
/-- a value that stands in every heap -/
theorem tC_ok {v : V} {p : PV} (hv : ∀ L H, Val c L H p v) {σ : St} {H : Hp} {Q : VK} : tG rV c W (dC p) σ H Q → tC v σ H Q := fun ⟨F, m, s, S, hc, R, P⟩ =>
  PostE.here P R (.v (hc ▸ hv _ _) fun e => nomatch e)
theorem pea_int {i : Int} {j} : PEA X c W (.Constant (.int i) j pos) (dC (.int i)) := pe_int.imp fun _ _ _ => tC_ok fun _ _ => .int i
theorem pea_bl {b : Bool} {j} : PEA X c W (.Constant (.bool b) j pos) (dC (.bl b)) := pe_bl.imp fun _ _ _ => tC_ok fun _ _ => .bl b
theorem pea_non {j} : PEA X c W (.Constant .none j pos) (dC .non) := pe_non.imp fun _ _ _ => tC_ok fun _ _ => .non
theorem pea_str {x : Str} {j} : PEA X c W (.Constant (.str x) j pos) (dC (.str x)) := pe_str.imp fun _ _ _ => tC_ok fun _ _ => .str x
/-- a module's constant -/
theorem pea_glob {x : Str} {v : V} {u : Value} {p : PV} (hm : X.mg x = some u) (r : RelV v u) (hv : ∀ L H, Val c L H p v) (hg : Gl X x := by rfl) (hd : (x == ("__debug__" : Str)) = false := by decide) : PEA X c W (.Name x pos) (dC p) :=
  (pe_glob hg hm r hd).imp fun _ _ _ => tC_ok hv
end

/-! ### arguments -/
section
variable {X : Cx} {c : Ct} {W : WX} {e : Expr} {es : List Expr} {de : DE} {da : DA}
def dNil : DA := fun _ st => .ok [] st
def dCons (de : DE) (da : DA) : DA := fun S st => (de S st).then fun x st1 => (da S st1).then fun xs st2 => .ok (x :: xs) st2
theorem paa_nil : PAA X c W [] dNil := pa_nil.imp fun σ H Q ⟨F, m, s, S, hc, R, P⟩ => PostE.here P R .nil
theorem paa_cons (he : PEA X c W e de) (ha : PAA X c W es da) (hs : starEach (e :: es) X.env = (false, eval e X.env) :: starEach es X.env := by rfl) : PAA X c W (e :: es) (dCons de da) := (pa_cons he ha hs).imp fun σ H Q ⟨F, m, s, S, hc, R, P⟩ =>
  ⟨F, m, s, S, hc, R, (PostE.bind P).imp fun v H1 ⟨m1, s1, x, _, a1, R1, r1, P1⟩ =>
    ⟨F, m1, s1, S, hc, R1, (PostE.bind P1).imp fun vs H2 ⟨m2, s2, xs, _, a2, R2, r2, P2⟩ => PostE.here P2 R2 (.cons (AVal.step a2 r1) r2)⟩⟩
end

/-! ### two places -/
section
variable {X : Cx} {c : Ct} {W : WX} {a b : Expr} {da db : DE} {pos : Pos} {op : Operator} {r : R2} {f : AV → AV → Store → Res AV}
def dBin (f : AV → AV → Store → Res AV) (da db : DE) : DE := fun S st => (da S st).then fun x st1 => (db S st1).then fun y st2 => f x y st2
/-- an operation on abstract values and its reading -/
def R2ok (c : Ct) (r : R2) (f : AV → AV → Store → Res AV) : Prop := ∀ (W : WX) (F : Fix) (m : Nat → Addr) (st : Store) (S : Slots) (σ : St) (H : Hp) (x y : AV) (v w : V) (Q : VK), F.c = c → Rel F m st S σ H → AVal F m st.length H x v → AVal F m st.length H y w →
  PostE rV W F m st.length H S σ (f x y st) Q → r v w H Q
theorem bin_ok (hr : R2ok c r f) {σ : St} {H : Hp} {Q : VK} : tG rV c W (dBin f da db) σ H Q → tOp r (tG rV c W da) (tG rV c W db) σ H Q := fun ⟨F, m, s, S, hc, R, P⟩ =>
  ⟨F, m, s, S, hc, R, (PostE.bind P).imp fun v H1 ⟨m1, s1, x, _, a1, R1, r1, P1⟩ =>
    ⟨F, m1, s1, S, hc, R1, (PostE.bind P1).imp fun w H2 ⟨m2, s2, y, _, a2, R2, r2, P2⟩ => hr W F m2 s2 S σ H2 x y v w Q hc R2 (AVal.step a2 r1) r2 P2⟩⟩
theorem pea_op (ho : OpR X (binaryOp op) r) (hf : R2ok c r f) (ha : PEA X c W a da) (hb : PEA X c W b db) : PEA X c W (.BinOp a op b pos) (dBin f da db) := (pe_op ho ha hb).imp fun _ _ _ => bin_ok hf
theorem pea_cmp {op : CmpOp} (ho : OpR X (compareOp op) r) (hf : R2ok c r f) (ha : PEA X c W a da) (hb : PEA X c W b db) (hm : behindInMarks op b = false := by first | exact nomark _ (by decide) (by decide) | rfl) : PEA X c W (.Compare a [op] [b] pos) (dBin f da db) :=
  (pe_cmpR ho ha hb hm).imp fun _ _ _ => bin_ok hf
theorem R2ok.or {r' : R2} (h : R2ok c r f) : R2ok c (fun x y H Q => r x y H Q ∨ r' x y H Q) f := fun W F m st S σ H x y v w Q h1 h2 h3 h4 h5 => .inl (h W F m st S σ H x y v w Q h1 h2 h3 h4 h5)
end
/-! ### tests -/
section
variable {X : Cx} {c : Ct} {W : WX} {a b e : Expr} {rest : List Expr} {de : DE} {da db : DT} {pos : Pos}
/-- a value that is True or False -/
def dB (de : DE) : DT := fun S st => (de S st).then fun x st1 => match x with
  | .v (.bl k) _ => .ok k st1
  | _ => .bad
theorem isB {F : Fix} {m : Nat → Addr} {N : Nat} {H : Hp} {k : Bool} {fr : Bool} {v : V} (h : AVal F m N H (.v (.bl k) fr) v) : v = .bl k := by
  cases h with
  | v h _ => cases h; rfl
theorem isI {F : Fix} {m : Nat → Addr} {N : Nat} {H : Hp} {k : Int} {fr : Bool} {v : V} (h : AVal F m N H (.v (.int k) fr) v) : v = .int k := by
  cases h with
  | v h _ => cases h; rfl
theorem isS {F : Fix} {m : Nat → Addr} {N : Nat} {H : Hp} {k : Str} {fr : Bool} {v : V} (h : AVal F m N H (.v (.str k) fr) v) : v = .str k := by
  cases h with
  | v h _ => cases h; rfl
theorem isN {F : Fix} {m : Nat → Addr} {N : Nat} {H : Hp} {fr : Bool} {v : V} (h : AVal F m N H (.v .non fr) v) : v = .non := by
  cases h with
  | v h _ => cases h; rfl
theorem dB_ok {σ : St} {H : Hp} {Q : Bool → Hp → Prop} : tG rB c W (dB de) σ H Q → tG rV c W de σ H fun x H1 => ∃ k, x = .bl k ∧ Q k H1 := fun ⟨F, m, s, S, hc, R, P⟩ =>
  ⟨F, m, s, S, hc, R, (PostE.bind P).imp fun v H1 ⟨m1, s1, x, _, a1, R1, r1, P1⟩ => by
    cases x with
    | v p fr =>
      cases p with
      | bl k => exact ⟨k, isB r1, PostE.here P1 R1 rfl⟩
      | _ => exact P1.elim
    | ref n => exact P1.elim⟩
theorem pta_val (h : PEA X c W e de) (he : ∀ whole, isTrue e X.env whole = (do let v ← whole; standAt e.pos; holding [v] (truthy v)) := by intro _; rfl) : PTA X c W e (dB de) := (pt_val h he).imp fun _ _ _ => dB_ok
/-- a comparison as a test -/
theorem pta_cmp {op : CmpOp} {r : R2} {f : AV → AV → Store → Res AV} {dx dy : DE} (ho : OpR X (compareOp op) r) (hf : R2ok c r f) (ha : PEA X c W a dx) (hb : PEA X c W b dy) (hm : behindInMarks op b = false := by first | exact nomark _ (by decide) (by decide) | rfl) :
    PTA X c W (.Compare a [op] [b] pos) (dB (dBin f dx dy)) := (pt_cmpR ho ha hb hm).imp fun σ H Q h => bin_ok hf (dB_ok h)
def dNot (da : DT) : DT := fun S st => (da S st).then fun k st1 => .ok (!k) st1
theorem pta_not (h : PTA X c W a da) : PTA X c W (.UnaryOp .Not a pos) (dNot da) := (pt_not h).imp fun σ H Q ⟨F, m, s, S, hc, R, P⟩ =>
  ⟨F, m, s, S, hc, R, (PostE.bind P).imp fun v H1 ⟨m1, s1, k, _, a1, R1, r1, P1⟩ => by
    have r1 : k = v := r1
    subst r1
    exact PostE.here P1 R1 rfl⟩
def dAnd (da db : DT) : DT := fun S st => (da S st).then fun k st1 => bif k then db S st1 else .ok false st1
def dOr (da db : DT) : DT := fun S st => (da S st).then fun k st1 => bif k then .ok true st1 else db S st1
abbrev PWA (X : Cx) (c : Ct) (W : WX) (e : Expr) (d : DT) : Prop := PW X e (tG rB c W d)
theorem pwa_and1 (h : PTA X c W a da) : PWA X c W (.BoolOp .And [a] pos) da := pw_and1 h
theorem pwa_or1 (h : PTA X c W a da) : PWA X c W (.BoolOp .Or [a] pos) da := pw_or1 h
theorem pwa_and (ha : PTA X c W a da) (hb : PWA X c W (.BoolOp .And (b :: rest) pos) db) : PWA X c W (.BoolOp .And (a :: b :: rest) pos) (dAnd da db) := (pw_and ha hb).imp fun σ H Q ⟨F, m, s, S, hc, R, P⟩ =>
  ⟨F, m, s, S, hc, R, (PostE.bind P).imp fun v H1 ⟨m1, s1, k, _, a1, R1, r1, P1⟩ => by
    have r1 : k = v := r1
    subst r1
    cases k with
    | true => exact ⟨F, m1, s1, S, hc, R1, P1⟩
    | false => exact PostE.here P1 R1 rfl⟩
theorem pwa_or (ha : PTA X c W a da) (hb : PWA X c W (.BoolOp .Or (b :: rest) pos) db) : PWA X c W (.BoolOp .Or (a :: b :: rest) pos) (dOr da db) := (pw_or ha hb).imp fun σ H Q ⟨F, m, s, S, hc, R, P⟩ =>
  ⟨F, m, s, S, hc, R, (PostE.bind P).imp fun v H1 ⟨m1, s1, k, _, a1, R1, r1, P1⟩ => by
    have r1 : k = v := r1
    subst r1
    cases k with
    | false => exact ⟨F, m1, s1, S, hc, R1, P1⟩
    | true => exact PostE.here P1 R1 rfl⟩
theorem pta_w (h : PWA X c W e da) : PTA X c W e da := PW.pt h
/-- as values -/
def dBV (da : DT) : DE := fun S st => (da S st).then fun k st1 => .ok (.v (.bl k) false) st1
def dNotV (de : DE) : DE := fun S st => (de S st).then fun x st1 => match x with
  | .v (.bl k) _ => .ok (.v (.bl (!k)) false) st1
  | _ => .bad
def dAndV (de df : DE) : DE := fun S st => (de S st).then fun x st1 => match x with
  | .v (.bl k) _ => bif k then df S st1 else .ok (.v (.bl false) false) st1
  | _ => .bad
def dOrV (de df : DE) : DE := fun S st => (de S st).then fun x st1 => match x with
  | .v (.bl k) _ => bif k then .ok (.v (.bl true) false) st1 else df S st1
  | _ => .bad
theorem pea_one {op} (h : PEA X c W a de) : PEA X c W (.BoolOp op [a] pos) de := pe_one h
theorem pea_and {df : DE} (ha : PEA X c W a de) (hb : PEA X c W (.BoolOp .And (b :: rest) pos) df) : PEA X c W (.BoolOp .And (a :: b :: rest) pos) (dAndV de df) := (pe_and ha hb).imp fun σ H Q ⟨F, m, s, S, hc, R, P⟩ =>
  ⟨F, m, s, S, hc, R, (PostE.bind P).imp fun v H1 ⟨m1, s1, x, _, a1, R1, r1, P1⟩ => by
    cases x with
    | v p fr =>
      cases p with
      | bl k =>
        refine ⟨k, isB r1, ?_⟩
        cases k with
        | true => exact ⟨F, m1, s1, S, hc, R1, P1⟩
        | false => exact PostE.here P1 R1 (.v (.bl _) fun e => nomatch e)
      | _ => exact P1.elim
    | ref n => exact P1.elim⟩
theorem pea_or {df : DE} (ha : PEA X c W a de) (hb : PEA X c W (.BoolOp .Or (b :: rest) pos) df) : PEA X c W (.BoolOp .Or (a :: b :: rest) pos) (dOrV de df) := (pe_or ha hb).imp fun σ H Q ⟨F, m, s, S, hc, R, P⟩ =>
  ⟨F, m, s, S, hc, R, (PostE.bind P).imp fun v H1 ⟨m1, s1, x, _, a1, R1, r1, P1⟩ => by
    cases x with
    | v p fr =>
      cases p with
      | bl k =>
        refine ⟨k, isB r1, ?_⟩
        cases k with
        | false => exact ⟨F, m1, s1, S, hc, R1, P1⟩
        | true => exact PostE.here P1 R1 (.v (.bl _) fun e => nomatch e)
      | _ => exact P1.elim
    | ref n => exact P1.elim⟩
theorem pea_not (h : PEA X c W a de) : PEA X c W (.UnaryOp .Not a pos) (dNotV de) := (pe_not h).imp fun σ H Q ⟨F, m, s, S, hc, R, P⟩ =>
  ⟨F, m, s, S, hc, R, (PostE.bind P).imp fun v H1 ⟨m1, s1, x, _, a1, R1, r1, P1⟩ => by
    cases x with
    | v p fr =>
      cases p with
      | bl k => exact ⟨k, isB r1, PostE.here P1 R1 (.v (.bl _) fun e => nomatch e)⟩
      | _ => exact P1.elim
    | ref n => exact P1.elim⟩
def dIfE (dt : DT) (de df : DE) : DE := fun S st => (dt S st).then fun k st1 => bif k then de S st1 else df S st1
theorem pea_ifExp {t : Expr} {dt : DT} {df : DE} (ht : PTA X c W t dt) (ha : PEA X c W a de) (hb : PEA X c W b df) : PEA X c W (.IfExp t a b pos) (dIfE dt de df) := (pe_ifExp ht ha hb).imp fun σ H Q ⟨F, m, s, S, hc, R, P⟩ =>
  ⟨F, m, s, S, hc, R, (PostE.bind P).imp fun v H1 ⟨m1, s1, k, _, a1, R1, r1, P1⟩ => by
    have r1 : k = v := r1
    subst r1
    cases k with
    | true => exact ⟨F, m1, s1, S, hc, R1, P1⟩
    | false => exact ⟨F, m1, s1, S, hc, R1, P1⟩⟩
end
end A

/-! The A-layer, part 2: operators, displays, subscripts, built-ins. -/
namespace A
open PySem PySem.Spec PyProof.Rows L2

theorem pairedAppend {α β : Type} {P : α → β → Prop} : ∀ {xs ys : List α} {us vs : List β}, Paired P xs us → Paired P ys vs → Paired P (xs ++ ys) (us ++ vs)
  | _, _, _, _, .nil, s => s
  | _, _, _, _, .cons h r, s => .cons h (pairedAppend r s)
/-! ### lists of values -/
def toP : AV → Option PV
  | .v p _ => some p
  | .ref _ => none
def toPs : List AV → Option (List PV)
  | [] => some []
  | .v p _ :: r => (toPs r).map (p :: ·)
  | .ref _ :: _ => none
def strip : AV → AV
  | .v p _ => .v p false
  | x => x
/-- a new list, as a value or in the store -/
def newL (r : Bool) (xs : List AV) (st : Store) : Res AV := bif r then .ok (.ref st.length) (st ++ [.lst (xs.map strip)]) else match toPs xs with
  | some ps => .ok (.v (.lst true ps) true) st
  | none => .bad
section
variable {c : Ct} {W : WX} {F : Fix} {m : Nat → Addr} {N : Nat} {H : Hp} {S : Slots} {σ : St} {st : Store} {Q : VK}
theorem AVal0.strip {x : AV} {v : V} (h : AVal0 F m N H x v) : AVal F m N H (strip x) v := by
  cases h with
  | v h => exact .v h fun e => nomatch e
  | ref h => exact .ref h
theorem AVls0.strip : ∀ {xs : List AV} {vs : List V}, AVls0 F m N H xs vs → AVls F m N H (xs.map strip) vs
  | _, _, .nil => .nil
  | _, _, .cons h r => .cons h.strip (AVls0.strip r)
theorem toPs_ok : ∀ {xs : List AV} {vs : List V} {ps : List PV}, AVls0 F m N H xs vs → toPs xs = some ps → Vls F.c (Lw F m N) H ps vs
  | [], _, ps, .nil, e => by
    cases e
    exact .nil
  | .v p fr :: r, v :: vs, ps, .cons h t, e => by
    unfold toPs at e
    cases q : toPs r with
    | none => rw [q] at e; cases e
    | some qs =>
      rw [q] at e
      cases e
      cases h with
      | v h => exact .cons h (toPs_ok t q)
  | .ref n :: r, v :: vs, ps, .cons h t, e => by cases e
theorem Vls.avls : ∀ {ps : List PV} {vs : List V}, Vls F.c (Lw F m N) H ps vs → AVls F m N H (ps.map (AV.v · false)) vs
  | _, _, .nil => .nil
  | _, _, .cons h r => .cons (.v h fun e => nomatch e) (Vls.avls r)
theorem Val.int_inv {L : Bool → Addr → Prop} {i : Int} {v : V} (h : Val c L H (.int i) v) : v = .int i := by cases h; rfl
/-- the value list at a new address -/
theorem fresh_val (R : Rel F m st S σ H) {p : Addr} (hp : H p = none) {ps : List PV} {vs : List V} (h : Vls F.c (Lw F m st.length) H ps vs) :
    AVal F m st.length (upd H p (.lst vs)) (.v (.lst true ps) true) (.ref p) := by
  have s := Step.of (m := m) (N := st.length) (same_upd (o := .lst vs) hp)
  refine .v (.lst upd_same (R.free hp) (Vls.step s h)) fun _ => ⟨true, ps, p, vs, rfl, rfl, R.h0 hp, upd_same, ?_⟩
  exact (Vls.mono s.imm (fun t a o l e => s.keep a o e l.2.2) (fun t a l e => ⟨Lw.step s l e, fun z => e (z ▸ hp)⟩) h)
theorem newL_ok (R : Rel F m st S σ H) {r : Bool} {xs : List AV} {vs : List V} {p : Addr} (hp : H p = none) (h : AVls0 F m st.length H xs vs)
    (P : PostE rV W F m st.length H S σ (newL r xs st) Q) : Q (.ref p) (upd H p (.lst vs)) := by
  unfold newL at P
  cases r with
  | true =>
    simp only [cond_true] at P
    obtain ⟨m', s, R', e⟩ := R.push (o := .lst (xs.map strip)) (u := .lst vs) hp (same_upd hp) upd_same fun m' s e => .lst (AVls.zero (AVls.step s h.strip))
    have := P m' (.ref (m' st.length)) _ s R' (.ref (by simp))
    rw [e] at this; exact this
  | false =>
    simp only [cond_false] at P
    cases e : toPs xs with
    | none => rw [e] at P; exact P.elim
    | some ps =>
      rw [e] at P
      exact P m _ _ (Step.of (same_upd hp)) (R.same (same_upd hp)) (fresh_val R hp (toPs_ok h e))
theorem newT_ok (R : Rel F m st S σ H) {ps : List PV} {vs : List V} {p : Addr} (hp : H p = none) (h : Vls F.c (Lw F m st.length) H ps vs)
    (P : PostE rV W F m st.length H S σ (.ok (.v (.tup ps) false) st) Q) : Q (.ref p) (upd H p (.tup vs)) :=
  P m _ _ (Step.of (same_upd hp)) (R.same (same_upd hp)) (.v (.tup upd_same (Vls.step (Step.of (same_upd hp)) h)) fun e => nomatch e)
/-- the items of a list -/
def listOf (st : Store) : AV → Option (List AV)
  | .v (.lst _ xs) _ => some (xs.map (AV.v · false))
  | .ref n => match st[n]? with
    | some (.lst xs) => some xs
    | _ => none
  | _ => none
theorem listOf_ok (R : Rel F m st S σ H) {x : AV} {v : V} {xs : List AV} (h : AVal F m st.length H x v) (e : listOf st x = some xs) : ∃ a vs, v = .ref a ∧ H a = some (.lst vs) ∧ AVls0 F m st.length H xs vs := by
  cases h with
  | v h _ =>
    cases h with
    | lst h l r => cases e; exact ⟨_, _, rfl, h, AVls.zero (Vls.avls r)⟩
    | _ => cases e
  | ref h =>
    rename_i n
    cases q : st[n]? with
    | none => simp only [listOf, q] at e; cases e
    | some o =>
      simp only [listOf, q] at e
      obtain ⟨u, h1, h2⟩ := R.sto n o q
      cases h2 with
      | lst h2 => cases e; exact ⟨_, _, rfl, h1, h2⟩
      | _ => cases e
theorem tup_ok {ps : List PV} {fr : Bool} {v : V} (h : AVal F m N H (.v (.tup ps) fr) v) : ∃ a vs, v = .ref a ∧ SqT F.c.K H a vs ∧ Vls F.c (Lw F m N) H ps vs := by
  cases h with
  | v h _ =>
    cases h with
    | tup h r => exact ⟨_, _, rfl, .inl (.inl h), r⟩
theorem tup_at {ps : List PV} {fr : Bool} {v : V} (h : AVal F m N H (.v (.tup ps) fr) v) : ∃ a vs, v = .ref a ∧ H a = some (.tup vs) ∧ Vls F.c (Lw F m N) H ps vs := by
  cases h with
  | v h _ =>
    cases h with
    | tup h r => exact ⟨_, _, rfl, h, r⟩
theorem scr_of {K : PySem.W.Frag} {a : Addr} {ns : List Int} {p : Prop} (h : (∃ o, H a = some (.frz o (.lst (ns.map V.int))) ∧ p) ∨ SqL K (fun _ => none) a (ns.map V.int)) : (∃ o, H a = some (.frz o (.lst (ns.map V.int)))) ∨ SqL K (fun _ => none) a (ns.map V.int) := h.imp (fun ⟨o, h, _⟩ => ⟨o, h⟩) id
theorem scr_sq {K : PySem.W.Frag} {a : Addr} {ns : List Int} (h : (∃ o, H a = some (.frz o (.lst (ns.map V.int)))) ∨ SqL K (fun _ => none) a (ns.map V.int)) : SqL K H a (ns.map V.int) := by
  rcases h with ⟨o, h⟩ | h
  · exact .inl (.inr ⟨o, h⟩)
  · rcases h with h | h
    · rcases h with h | ⟨o, h⟩ <;> cases h
    · exact .inr h
theorem scr_ok {ns : List Int} {fr : Bool} {v : V} (h : AVal F m N H (.v (.scr ns) fr) v) : ∃ a, v = .ref a ∧ SqL F.c.K H a (ns.map V.int) := by
  cases h with
  | v h _ =>
    cases h with
    | scr h => exact ⟨_, rfl, scr_sq (scr_of h)⟩
theorem ints_vls {L : Bool → Addr → Prop} : ∀ ns : List Int, Vls c L H (ns.map PV.int) (ns.map V.int)
  | [] => .nil
  | n :: ns => .cons (.int n) (ints_vls ns)
end

/-! ### displays -/
section
variable {X : Cx} {c : Ct} {W : WX} {es : List Expr} {da : DA} {pos : Pos}
def dTup (da : DA) : DE := fun S st => (da S st).then fun xs st1 => match toPs xs with
  | some ps => bif Nat.ble ps.length 1000000 then .ok (.v (.tup ps) false) st1 else .bad
  | none => .bad
def dLst (r : Bool) (da : DA) : DE := fun S st => (da S st).then fun xs st1 => bif Nat.ble xs.length 1000000 then newL r xs st1 else .bad
theorem le_line {n : Nat} (h : Nat.ble n 1000000 = true) : n ≤ sizeLine := Nat.le_trans (Nat.le_of_ble_eq_true h) (by decide)
theorem pea_tup {x1} (h : PAA X c W es da) : PEA X c W (.Tuple es x1 pos) (dTup da) := (pe_tup h).imp fun σ H Q ⟨F, m, s, S, hc, R, P⟩ =>
  ⟨F, m, s, S, hc, R, (PostE.bind P).imp fun vs H1 ⟨m1, s1, xs, _, a1, R1, r1, P1⟩ => by
    have hl := Paired.length r1
    cases e : toPs xs with
    | none => rw [e] at P1; exact P1.elim
    | some ps =>
      rw [e] at P1
      have v := toPs_ok (AVls.zero r1) e
      have hl2 := Vls.length v
      cases q : Nat.ble ps.length 1000000 with
      | false => simp only [q, cond_false] at P1; exact P1.elim
      | true =>
        simp only [q, cond_true] at P1
        exact ⟨by rw [← hl2]; exact le_line q, fun p hp => newT_ok R1 hp v P1⟩⟩
theorem pea_lst (r : Bool) (h : PAA X c W es da) : PEA X c W (.List es pos) (dLst r da) := (pe_lst h).imp fun σ H Q ⟨F, m, s, S, hc, R, P⟩ =>
  ⟨F, m, s, S, hc, R, (PostE.bind P).imp fun vs H1 ⟨m1, s1, xs, _, a1, R1, r1, P1⟩ => by
    have hl := Paired.length r1
    cases q : Nat.ble xs.length 1000000 with
    | false => simp only [q, cond_false] at P1; exact P1.elim
    | true =>
      simp only [q, cond_true] at P1
      exact ⟨by rw [← hl]; exact le_line q, fun p hp => newL_ok R1 hp (AVls.zero r1) P1⟩⟩
end

/-! ### operators on ints and the like -/
section
variable {X : Cx} {c : Ct}
/-- two ints -/
def dI2 (C : Int → Int → Bool) (g : Int → Int → PV) : AV → AV → Store → Res AV := fun x y st => match x, y with
  | .v (.int i) _, .v (.int j) _ => bif C i j then .ok (.v (g i j) false) st else .bad
  | _, _ => .bad
theorem r2_int {C : Int → Int → Bool} {C' : Int → Int → Prop} {g : Int → Int → PV} {g' : Int → Int → V} (hC : ∀ i j, C i j = true → C' i j) (hg : ∀ c L H i j, Val c L H (g i j) (g' i j)) : R2ok c (rI C' g') (dI2 C g) := by
  intro W F m st S σ H x y v w Q hc R rx ry P
  unfold dI2 at P
  split at P
  · rename_i i _ j _
    cases q : C i j with
    | false => rw [q] at P; exact P.elim
    | true =>
      rw [q] at P
      exact ⟨i, j, isI rx, isI ry, hC i j q, PostE.here P R (.v (hg _ _ _ i j) fun e => nomatch e)⟩
  · exact P.elim
theorem r2_int0 {g : Int → Int → PV} {g' : Int → Int → V} (hg : ∀ c L H i j, Val c L H (g i j) (g' i j)) : R2ok c (rI0 g') (dI2 (fun _ _ => true) g) := fun W F m st S σ H x y v w Q hc R rx ry P => by
  obtain ⟨i, j, e1, e2, _, q⟩ := r2_int (c := c) (C := fun _ _ => true) (C' := fun _ _ => True) (fun _ _ _ => trivial) hg W F m st S σ H x y v w Q hc R rx ry P
  exact ⟨i, j, e1, e2, q⟩
abbrev fSub := dI2 (fun _ _ => true) fun i j => .int (i - j)
def mulC (i j : Int) : Bool := decide (i.natAbs.log2 + j.natAbs.log2 < 100000000)
abbrev fMul := dI2 mulC fun i j => .int (i * j)
abbrev fMod := dI2 (fun _ j => decide (j ≠ 0)) fun i j => .int (i.fmod j)
abbrev fDiv := dI2 (fun _ j => decide (j ≠ 0)) fun i j => .int (i.fdiv j)
abbrev fPow := dI2 (fun i j => decide (0 ≤ j) && decide (j ≤ 1000000) && decide (i.natAbs < 2 ^ 64)) fun i j => .int (i ^ j.toNat)
abbrev fShl := dI2 (fun i j => decide (0 ≤ j) && decide (j ≤ 1000000) && decide (i.natAbs < 2 ^ 64)) fun i j => .int (i * 2 ^ j.toNat)
abbrev fShr := dI2 (fun _ j => decide (0 ≤ j)) fun i j => .int (i / 2 ^ j.toNat)
abbrev fAnd := dI2 (fun _ _ => true) fun i j => .int (Builtin.bitAnd i j)
abbrev fOr := dI2 (fun _ _ => true) fun i j => .int (Builtin.bitOr i j)
abbrev fXor := dI2 (fun _ _ => true) fun i j => .int (Builtin.bitXor i j)
theorem r2_sub : R2ok c (rI0 fun i j => .int (i - j)) fSub := r2_int0 fun _ _ _ _ _ => .int _
theorem mulC_ok {i j : Int} (h : mulC i j = true) : IntMulOk i j := by
  have h3 : i.natAbs.log2 + j.natAbs.log2 < 100000000 := of_decide_eq_true h
  have b : ∀ x : Int, Builtin.Int.intBits x ≤ x.natAbs.log2 + 1 := fun x => by
    unfold Builtin.Int.intBits
    split <;> omega
  have h1 := b i
  have h2 := b j
  have e : bitsLine = 134217728 := by decide
  unfold IntMulOk
  intro z
  rw [Bool.and_eq_true] at z
  have z2 := z.2
  unfold Builtin.Int.intTooBig at z2
  have z3 := of_decide_eq_true z2
  rw [e] at z3
  omega
theorem op_mulA : OpR X (binaryOp .Mult) (rI (fun i j => mulC i j = true) fun i j => .int (i * j)) := opI fun _ _ _ _ _ _ _ hc q => mul_int q (mulC_ok hc)
theorem r2_mul : R2ok c (rI (fun i j => mulC i j = true) fun i j => .int (i * j)) fMul := r2_int (fun _ _ h => h) fun _ _ _ _ _ => .int _
theorem r2_mod : R2ok c (rI (fun _ j => j ≠ 0) fun i j => .int (i.fmod j)) fMod := r2_int (fun _ _ h => of_decide_eq_true h) fun _ _ _ _ _ => .int _
theorem r2_pow : R2ok c (rI CPow fun i j => .int (i ^ j.toNat)) fPow := r2_int (fun _ _ h => by
  rw [Bool.and_eq_true, Bool.and_eq_true] at h
  exact ⟨of_decide_eq_true h.1.1, of_decide_eq_true h.1.2, of_decide_eq_true h.2⟩) fun _ _ _ _ _ => .int _
theorem r2_shl : R2ok c (rI CPow fun i j => .int (i * 2 ^ j.toNat)) fShl := r2_int (fun _ _ h => by
  rw [Bool.and_eq_true, Bool.and_eq_true] at h
  exact ⟨of_decide_eq_true h.1.1, of_decide_eq_true h.1.2, of_decide_eq_true h.2⟩) fun _ _ _ _ _ => .int _
theorem r2_shr : R2ok c (rI (fun _ j => 0 ≤ j) fun i j => .int (i / 2 ^ j.toNat)) fShr := r2_int (fun _ _ h => of_decide_eq_true h) fun _ _ _ _ _ => .int _
theorem r2_and : R2ok c (rI0 fun i j => .int (Builtin.bitAnd i j)) fAnd := r2_int0 fun _ _ _ _ _ => .int _
theorem r2_or : R2ok c (rI0 fun i j => .int (Builtin.bitOr i j)) fOr := r2_int0 fun _ _ _ _ _ => .int _
theorem r2_xor : R2ok c (rI0 fun i j => .int (Builtin.bitXor i j)) fXor := r2_int0 fun _ _ _ _ _ => .int _
/-- // by any number but 0 -/
theorem op_fdivA (cn : Cn X c) : OpR X (binaryOp .FloorDiv) (rI (fun _ j => j ≠ 0) fun i j => .int (i.fdiv j)) := by
  intro pins s σ H x y v u Q I rx ry ⟨i, j, e1, e2, hj, q⟩
  subst e1 e2
  obtain ⟨t, rfl⟩ := rx
  obtain ⟨t', rfl⟩ := ry
  refine floordiv_int hj ⟨.int _, H, I.tok _, ⟨_, rfl⟩, q⟩ (.inr ?_)
  obtain ⟨e, l, hs, h1, h2, h3, h4⟩ := cn.stk
  refine PylongRoom.of I.nolimit ?_ (SeerAt.of (cn.no.keeps I.bk) cn.tree (by rw [I.ok.frames, hs]) h1 h2 h3 h4)
  have := cn.room.dp
  have e : Builtin.pylongFrames = 100 := rfl
  omega
theorem r2_fdiv : R2ok c (rI (fun _ j => j ≠ 0) fun i j => .int (i.fdiv j)) fDiv := r2_int (fun _ _ h => of_decide_eq_true h) fun _ _ _ _ _ => .int _
abbrev fLt := dI2 (fun _ _ => true) fun i j => .bl (decide (i < j))
abbrev fLe := dI2 (fun _ _ => true) fun i j => .bl (decide (i ≤ j))
abbrev fGt := dI2 (fun _ _ => true) fun i j => .bl (decide (j < i))
abbrev fGe := dI2 (fun _ _ => true) fun i j => .bl (decide (j ≤ i))
theorem r2_lt : R2ok c (rI0 fun i j => .bl (decide (i < j))) fLt := r2_int0 fun _ _ _ _ _ => .bl _
theorem r2_le : R2ok c (rI0 fun i j => .bl (decide (i ≤ j))) fLe := r2_int0 fun _ _ _ _ _ => .bl _
theorem r2_gt : R2ok c (rI0 fun i j => .bl (decide (j < i))) fGt := r2_int0 fun _ _ _ _ _ => .bl _
theorem r2_ge : R2ok c (rI0 fun i j => .bl (decide (j ≤ i))) fGe := r2_int0 fun _ _ _ _ _ => .bl _
/-- + of ints, texts, lists, tuples -/
def fAdd (r : Bool) : AV → AV → Store → Res AV := fun x y st => match x, y with
  | .v (.int i) _, .v (.int j) _ => .ok (.v (.int (i + j)) false) st
  | .v (.str a) _, .v (.str b) _ => bif Nat.ble (a.length + b.length) 1000000 then .ok (.v (.str (a ++ b)) false) st else .bad
  | .v (.tup a) _, .v (.tup b) _ => bif !a.isEmpty && Nat.ble (a.length + b.length) 1000000 then .ok (.v (.tup (a ++ b)) false) st else .bad
  | _, _ => match listOf st x, listOf st y with
    | some xs, some ys => bif Nat.ble (xs.length + ys.length) 1000000 then newL r (xs ++ ys) st else .bad
    | _, _ => .bad
abbrev rAddA (K : PySem.W.Frag) : R2 := fun x y H Q => rI0 (fun i j => .int (i + j)) x y H Q ∨ (fun x y H Q => (fun x y H Q => ∃ i j, x = V.str i ∧ y = V.str j ∧ i.length + j.length ≤ sizeLine ∧ Q (V.str (i ++ j)) H) x y H Q ∨ (fun x y H Q => rCatT K x y H Q ∨ rCat x y H Q) x y H Q) x y H Q
theorem op_addA : OpR X (binaryOp .Add) (rAddA X.K) := op_add.or (op_add_str.or (op_catT.or op_cat))
theorem r2_add (r : Bool) : R2ok c (rAddA c.K) (fAdd r) := by
  intro W F m st S σ H x y v w Q hc R rx ry P
  have lists : (PostE rV W F m st.length H S σ (match listOf st x, listOf st y with
    | some xs, some ys => bif Nat.ble (xs.length + ys.length) 1000000 then newL r (xs ++ ys) st else .bad
    | _, _ => .bad) Q) → rAddA c.K v w H Q := by
    intro P
    cases e1 : listOf st x with
    | none => rw [e1] at P; exact P.elim
    | some xs =>
      cases e2 : listOf st y with
      | none => rw [e1, e2] at P; exact P.elim
      | some ys =>
        rw [e1, e2] at P
        obtain ⟨a, vs, rfl, h1, r1⟩ := listOf_ok R rx e1
        obtain ⟨b, ws, rfl, h2, r2⟩ := listOf_ok R ry e2
        simp only at P
        cases q : Nat.ble (xs.length + ys.length) 1000000 with
        | false => rw [q] at P; exact P.elim
        | true =>
          rw [q] at P
          exact .inr (.inr (.inr ⟨a, b, vs, ws, rfl, rfl, h1, h2, by rw [← Paired.length r1, ← Paired.length r2]; exact le_line q, fun p hp => newL_ok R hp (pairedAppend r1 r2) P⟩))
  unfold fAdd at P
  split at P
  · exact .inl ⟨_, _, isI rx, isI ry, PostE.here P R (.v (.int _) fun e => nomatch e)⟩
  · rename_i a _ b _
    cases q : Nat.ble (a.length + b.length) 1000000 with
    | false => rw [q] at P; exact P.elim
    | true =>
      rw [q] at P
      exact .inr (.inl ⟨_, _, isS rx, isS ry, le_line q, PostE.here P R (.v (.str _) fun e => nomatch e)⟩)
  · rename_i a _ b _
    obtain ⟨p1, vs, rfl, h1, r1⟩ := tup_at rx
    obtain ⟨p2, ws, rfl, h2, r2⟩ := tup_ok ry
    cases q : (!a.isEmpty && Nat.ble (a.length + b.length) 1000000) with
    | false => rw [q] at P; exact P.elim
    | true =>
      rw [q] at P
      rw [Bool.and_eq_true] at q
      have l1 := Vls.length r1
      have l2 := Vls.length r2
      rw [hc] at h2
      refine .inr (.inr (.inl ⟨p1, p2, vs, ws, rfl, rfl, .inl (.inl h1), h2, ?_, by rw [← l1, ← l2]; exact le_line q.2, ?_, ?_⟩))
      · intro z; subst z
        have : a = [] := by simpa using l1
        subst this; simp at q
      · intro z; subst z
        have : b = [] := by simpa using l2
        subst this
        rw [List.append_nil] at P
        exact PostE.here P R (.v (.tup h1 r1) fun e => nomatch e)
      · intro _ p hp
        exact newT_ok R hp (Vls.append r1 r2) P
  · exact lists P
end
end A

/-! The A-layer, part 3: defs: their promises by denotations, their bodies, their calls. -/
namespace A
open PySem PySem.Spec PyProof.Rows L2

/-! ### the store's things as values -/
/-- all or none -/
def optAll {α : Type} : List (Option α) → Option (List α)
  | [] => some []
  | some x :: r => (optAll r).map (x :: ·)
  | none :: _ => none
def viewN (t : Bool) (st : Store) : Nat → AV → Option PV
  | _, .v p _ => some p
  | 0, .ref _ => none
  | k + 1, .ref n => match st[n]? with
    | some (.lst xs) => (optAll (xs.map (viewN t st k))).map (.lst t)
    | some (.dK kvs) => (optAll (kvs.map fun q => viewN t st k q.2)).map (.dct t (kvs.map (·.1)))
    | some (.ins C fs) => (optAll (fs.map fun q => viewN t st k q.2)).map (.obj t C (fs.map (·.1)))
    | _ => none
abbrev view (t : Bool) (st : Store) (x : AV) : Option PV := viewN t st 12 x
theorem view_v {t : Bool} {st : Store} {p : PV} {fr : Bool} : view t st (.v p fr) = some p := rfl
def views (t : Bool) (st : Store) (xs : List AV) : Option (List PV) := optAll (xs.map (view t st))
section
variable {F : Fix} {m : Nat → Addr} {H : Hp} {S : Slots} {σ : St} {st : Store} {L : Bool → Addr → Prop}
theorem optAll_ok {α β : Type} {P : α → β → Prop} {f : α → Option PV} {V' : PV → β → Prop} (h : ∀ a b p, P a b → f a = some p → V' p b) : ∀ {xs : List α} {vs : List β} {ps : List PV}, Paired P xs vs → optAll (xs.map f) = some ps → Paired V' ps vs
  | [], _, ps, .nil, e => by cases e; exact .nil
  | x :: xs, v :: vs, ps, .cons a r, e => by
    rw [List.map_cons] at e
    cases q : f x with
    | none => rw [q] at e; cases e
    | some p =>
      rw [q] at e
      cases q2 : optAll (xs.map f) with
      | none => simp only [optAll, q2] at e; cases e
      | some ps' =>
        simp only [optAll, q2] at e
        cases e
        exact .cons (h _ _ _ a q) (optAll_ok h r q2)
theorem vls_of {c : Ct} : ∀ {ps : List PV} {vs : List V}, Paired (fun p v => Val c L H p v) ps vs → Vls c L H ps vs
  | _, _, .nil => .nil
  | _, _, .cons h r => .cons h (vls_of r)
theorem of_vls {c : Ct} : ∀ {ps : List PV} {vs : List V}, Vls c L H ps vs → Paired (fun p v => Val c L H p v) ps vs
  | _, _, .nil => .nil
  | _, _, .cons h r => .cons h (of_vls r)
theorem zip_fst {κ : Type} {P : κ × AV → κ × V → Prop} (h : ∀ p q, P p q → p.1 = q.1) : ∀ {kvs : List (κ × AV)} {us : List (κ × V)}, Paired P kvs us → us = (kvs.map (·.1)).zip (us.map (·.2))
  | _, _, .nil => rfl
  | p :: _, q :: _, .cons a r => by
    rw [List.map_cons, List.map_cons, List.zip_cons_cons, ← zip_fst h r, h _ _ a]
theorem viewN_ok (R : Rel F m st S σ H) {t : Bool} (kL : ∀ t a, Lw F m st.length t a → H a ≠ none → L t a) (kS : ∀ i, i < st.length → L t (m i)) :
    ∀ (k : Nat) (x : AV) (v : V) (p : PV), AVal0 F m st.length H x v → viewN t st k x = some p → Val F.c L H p v
  | k, .v q fr, v, p, h, e => by
    have e : some q = some p := by cases k <;> exact e
    cases e
    cases h with
    | v h => exact Val.ground kL h
  | 0, .ref n, v, p, h, e => by cases e
  | k + 1, .ref n, v, p, h, e => by
    cases h with
    | ref hn =>
      have ih := viewN_ok R kL kS k
      cases q : st[n]? with
      | none => simp only [viewN, q] at e; cases e
      | some o =>
        obtain ⟨u, h1, h2⟩ := R.sto n o q
        cases h2 with
        | lst r =>
          simp only [viewN, q] at e
          cases q2 : optAll (List.map (viewN t st k) ‹List AV›) with
          | none => rw [q2] at e; cases e
          | some ps =>
            rw [q2] at e
            cases e
            exact .lst h1 (kS n hn) (vls_of (optAll_ok (V' := fun p v => Val F.c L H p v) (fun a b p h e => ih a b p h e) r q2))
        | dK r =>
          simp only [viewN, q] at e
          rename_i kvs us
          cases q2 : optAll (List.map (fun q => viewN t st k q.2) kvs) with
          | none => rw [q2] at e; cases e
          | some ps =>
            rw [q2] at e
            cases e
            have rr := optAll_ok (V' := fun (p : PV) (v : Key × V) => Val F.c L H p v.2) (f := fun (q : Key × AV) => viewN t st k q.2) (fun a b p h e => ih a.2 b.2 p h.2 e) r q2
            have rv : Vls F.c L H ps (us.map (·.2)) := vls_of (by
              clear q2 r h1 q
              induction rr with
              | nil => exact .nil
              | cons a _ ih => exact .cons a ih)
            refine .dct (vs := us.map (·.2)) ?_ ?_ (kS n hn) rv
            · rw [← zip_fst (fun _ _ h => h.1) r]; exact h1
            · rw [List.length_map, List.length_map, Paired.length r]
        | dT r => simp only [viewN, q] at e; cases e
        | lk r => simp only [viewN, q] at e; cases e
        | lkK r => simp only [viewN, q] at e; cases e
        | lkL r => simp only [viewN, q] at e; cases e
        | ins r =>
          simp only [viewN, q] at e
          rename_i C dx fs us
          cases q2 : optAll (List.map (fun q => viewN t st k q.2) fs) with
          | none => rw [q2] at e; cases e
          | some ps =>
            rw [q2] at e
            cases e
            have rr := optAll_ok (V' := fun (p : PV) (v : Str × V) => Val F.c L H p v.2) (f := fun (q : Nat × AV) => viewN t st k q.2) (fun a b p h e => ih a.2 b.2 p h.2 e) r q2
            have rv : Vls F.c L H ps (us.map (·.2)) := vls_of (by
              clear q2 r h1 q
              induction rr with
              | nil => exact .nil
              | cons a _ ih => exact .cons a ih)
            refine .obj (vs := us.map (·.2)) (dx := dx) ?_ ?_ (kS n hn) rv
            · have : us = ((fs.map (·.1)).map F.c.fn).zip (us.map (·.2)) := by
                clear rv rr q2 q h1 ih
                induction r with
                | nil => rfl
                | cons a _ ih =>
                  rename_i p q _ _ _
                  rw [List.map_cons, List.map_cons, List.map_cons, List.zip_cons_cons, ← ih, a.1]
              rw [← this]; exact h1
            · rw [List.length_map, List.length_map, Paired.length r]
theorem views_ok (R : Rel F m st S σ H) {t : Bool} (kL : ∀ t a, Lw F m st.length t a → H a ≠ none → L t a) (kS : ∀ i, i < st.length → L t (m i)) {xs : List AV} {vs : List V} {ps : List PV}
    (h : AVls0 F m st.length H xs vs) (e : views t st xs = some ps) : Vls F.c L H ps vs :=
  vls_of (optAll_ok (V' := fun p v => Val F.c L H p v) (fun a b p h e => viewN_ok R kL kS 12 a b p h e) h e)
/-- where nothing of the store is named -/
theorem views_flat (kL : ∀ t a, Lw F m st.length t a → H a ≠ none → L t a) {xs : List AV} {vs : List V} {ps : List PV} (h : AVls0 F m st.length H xs vs) (e : toPs xs = some ps) : Vls F.c L H ps vs := Vls.ground kL (toPs_ok h e)
end

/-! ### promises -/
/-- a def without changes: from its arguments' values to its answer -/
def spP (c : Ct) (n : Nat) (den : PDen) : Sp := fun vs H Q E => vs.length = n ∧ ∃ (A B : Addr → Prop) (ps : List PV), (∀ p, H p = none → A p) ∧ LamX.Tabs c.T H ∧ Vls c (LL A B) H ps vs ∧
  match den ps with
  | .ok p fr => ∀ v H', Ext c H H' → Val c (LL A B) H' p v → (fr = true → FreshP c (LL A B) H H' p v) → Q v H'
  | .ex e => ∀ cls d H', Ext c H H' → ERep c (LL A B) H' e cls d → E cls d H'
  | .bad => False
/-- a def that may change what it is handed -/
def spI (c : Ct) (n : Nat) (den : IDen) : Sp := fun vs H Q E => vs.length = n ∧ ∃ (F : Fix) (m : Nat → Addr) (st : Store) (xs : List AV), F.c = c ∧ F.H0 = H ∧ (F.O0 = fun a => ∃ i, i < st.length ∧ m i = a) ∧ Rel F m st [] [] H ∧ AVls0 F m st.length H xs vs ∧
  match den xs st with
  | .ok x st' => ∀ m' v H', Step m st.length H m' st'.length H' → Rel F m' st' [] [] H' → AVal F m' st'.length H' x v → Q v H'
  | .ex e st' => ∀ m' H' cls d, Step m st.length H m' st'.length H' → Rel F m' st' [] [] H' → ERep F.c (Lw F m' st'.length) H' e cls d → E cls d H'
  | .bad => False
/-- the slots at a def's start -/
def slots0 (N : Nat) (xs : List AV) : Slots := xs.map (fun x => some (strip x)) ++ List.replicate (N - xs.length) none
def freeze (st : Store) (x : AV) : PRes := match x with
  | .v p fr => .ok p fr
  | .ref n => match viewN true st 12 (.ref n) with
    | some (.lst t xs) => .ok (.lst t xs) (match st[n]? with
      | some (.lst ys) => (toPs ys).isSome
      | _ => false)
    | some p => .ok p false
    | none => .bad
/-- a body run as a def without changes (N: how many slots) -/
def runP (N : Nat) (d : DS) : PDen := fun ps => match d (slots0 N (ps.map (AV.v · false))) [] with
  | .nx _ _ => .ok .non false
  | .rt x st => freeze st x
  | .ex e _ _ => .ex e
  | _ => .bad
def runI (N : Nat) (d : DS) : IDen := fun xs st => match d (slots0 N xs) st with
  | .nx _ st' => .ok (.v .non false) st'
  | .rt x st' => .ok x st'
  | .ex e _ st' => .ex e st'
  | _ => .bad
section
variable {F : Fix} {m : Nat → Addr} {H : Hp} {N : Nat}
theorem slots_rel {K : Nat} : ∀ {xs : List AV} {vs : List V}, AVls0 F m K H xs vs → ∀ (i : Nat) (x : AV), (slots0 N xs)[i]? = some (some x) → ∃ v, (vs.map some ++ List.replicate (N - xs.length) (none : Option V))[i]? = some (some v) ∧ AVal F m K H x v := by
  intro xs vs h i x e
  unfold slots0 at e
  have hl := Paired.length h
  by_cases hi : i < xs.length
  · rw [List.getElem?_append_left (by simpa using hi), List.getElem?_map] at e
    rw [List.getElem?_append_left (by simpa [← hl] using hi), List.getElem?_map]
    rw [List.getElem?_eq_getElem hi] at e
    simp only [Option.map_some, Option.some.injEq] at e
    subst e
    have hi2 : i < vs.length := by omega
    rw [List.getElem?_eq_getElem hi2]
    refine ⟨vs[i], rfl, AVal0.strip ?_⟩
    clear hl
    induction h generalizing i with
    | nil => simp at hi
    | cons a _ ih =>
      cases i with
      | zero => exact a
      | succ i => simpa using ih i (by simpa using hi) (by simpa using hi2)
  · rw [List.getElem?_append_right (by simpa using hi)] at e
    rw [List.getElem?_replicate] at e
    split at e <;> cases e
end
/-- the body of a def without changes keeps its promise -/
theorem spP_body {c : Ct} {N n : Nat} {d : DS} {names : List Str} {vs : List V} {H : Hp} {Q : VK} {E : XK} (hN : names.length = N) (h : spP c n (runP N d) vs H Q E) :
    tS c (fun cls dx _ H => E cls dx H) d { nx := fun _ H' => Q .non H', rt := Q } (L2.start names vs) H := by
  obtain ⟨hn, A, B, ps, hA, hT, hv, P⟩ := h
  let F : Fix := ⟨c, A, B, fun _ => False, H, fun _ => False, hA⟩
  have hv0 : Vls F.c (Lw F (fun _ => 0) 0) H ps vs := Vls.ground (fun t a l e => ⟨l, fun z => z, fun i hi => absurd hi (Nat.not_lt_zero _)⟩) hv
  have R : Rel F (fun _ => 0) [] (slots0 N (ps.map (AV.v · false))) (L2.start names vs) H := by
    refine ⟨fun i j hi => absurd hi (Nat.not_lt_zero _), fun i hi => absurd hi (Nat.not_lt_zero _), fun b o h _ _ => h, fun b o h _ => h, fun b h => h, fun b z => z.elim, fun i o e => by simp at e, ?_, ?_, hT⟩
    · unfold slots0 L2.start
      simp [hN, Vls.length hv]
    · intro i x e
      have := slots_rel (N := N) (AVls.zero (Vls.avls hv0)) i x e
      unfold L2.start
      rw [hN]
      simpa [Vls.length hv] using this
  refine ⟨F, fun _ => 0, [], _, rfl, R, ?_⟩
  have same : ∀ {m' st' S' σ' H'}, Step (fun _ => 0) ([] : Store).length H m' st'.length H' → Rel F m' st' S' σ' H' → Ext c H H' := fun s R' => ⟨fun b o h n => s.keep b o h (fun i hi => absurd hi (Nat.not_lt_zero _)) n, s.dom, R'.tab⟩
  have gr : ∀ {m' : Nat → Addr} {N' : Nat} {H' : Hp} (t : Bool) (a : Addr), Lw F m' N' t a → H' a ≠ none → LL A B t a := fun t a l _ => l.1
  unfold runP at P
  cases e : d (slots0 N (ps.map (AV.v · false))) [] with
  | nx S' st' =>
    rw [e] at P
    exact fun m' σ' H' a b => P _ H' (same a b) .non fun z => nomatch z
  | rt x st' =>
    rw [e] at P
    intro m' v H' a R' rv
    simp only at P
    cases x with
    | v p fr =>
      cases rv with
      | v h f =>
        refine P v H' (same a R') (Val.ground gr h) fun z => ?_
        obtain ⟨t, xs, b, us, rfl, rfl, h0, hb, r⟩ := f z
        exact ⟨t, xs, b, us, rfl, rfl, h0, hb, Vls.ground (fun t a l _ => ⟨l.1.1, l.2⟩) r⟩
    | ref k =>
      cases rv with
      | ref hk =>
        have hmk : ∀ i, i < st'.length → H (m' i) = none := fun i hi => a.new i (Nat.zero_le _) hi
        have vk : ∀ q, viewN true st' 12 (.ref k) = some q → Val c (LL A B) H' q (.ref (m' k)) := fun q eq => viewN_ok R' gr (fun i hi => show if true = true then A _ else B _ from by rw [if_pos rfl]; exact hA _ (hmk i hi)) 12 (.ref k) _ q (.ref hk) eq
        unfold freeze at P
        simp only at P
        cases q : viewN true st' 12 (.ref k) with
        | none => rw [q] at P; exact P.elim
        | some p =>
          rw [q] at P
          have vp := vk p q
          cases p with
          | lst t xs =>
            simp only at P
            refine P _ H' (same a R') vp fun z => ?_
            cases e2 : st'[k]? with
            | none => rw [e2] at z; cases z
            | some o =>
              rw [e2] at z
              obtain ⟨u, h1, h2⟩ := R'.sto k o e2
              cases h2 with
              | lst r =>
                simp only at z
                cases e3 : toPs ‹List AV› with
                | none => rw [e3] at z; cases z
                | some qs =>
                  have rq := toPs_ok r e3
                  have eq : xs = qs := by
                    have : viewN true st' 12 (.ref k) = some (.lst true qs) := by
                      have all : ∀ (ys : List AV) (qs : List PV), toPs ys = some qs → optAll (ys.map (viewN true st' 11)) = some qs := by
                        intro ys
                        induction ys with
                        | nil => intro qs e; exact e
                        | cons y ys ih =>
                          intro qs e
                          cases y with
                          | ref n => cases e
                          | v p fr =>
                            unfold toPs at e
                            cases e5 : toPs ys with
                            | none => rw [e5] at e; cases e
                            | some rs =>
                              rw [e5] at e
                              cases e
                              rw [List.map_cons]
                              show Option.map (p :: ·) (optAll (ys.map (viewN true st' 11))) = _
                              rw [ih rs e5]; rfl
                      simp only [viewN, e2]
                      rw [all _ _ e3]; rfl
                    rw [q] at this; cases this; rfl
                  subst eq
                  refine ⟨t, xs, m' k, _, rfl, rfl, hmk k hk, h1, Vls.ground (fun t b l _ => ⟨l.1, fun z => l.2.2 k hk z.symm⟩) rq⟩
              | _ => cases z
          | _ => exact P _ H' (same a R') vp fun z => nomatch z
  | ex x S' st' =>
    rw [e] at P
    intro m' σ' H' cls dd a R' er
    exact P cls dd H' (same a R') (er.mono (fun _ _ h _ => h) (fun _ _ _ _ h _ => h) gr)
  | bk S' st' => rw [e] at P; exact P.elim
  | ct S' st' => rw [e] at P; exact P.elim
  | bad => rw [e] at P; exact P.elim
theorem spI_body {c : Ct} {N n : Nat} {d : DS} {names : List Str} {vs : List V} {H : Hp} {Q : VK} {E : XK} (hN : names.length = N) (h : spI c n (runI N d) vs H Q E) :
    tS c (fun cls dx _ H => E cls dx H) d { nx := fun _ H' => Q .non H', rt := Q } (L2.start names vs) H := by
  obtain ⟨hn, F, m, st, xs, hc, hH, hO, R0, hv, P⟩ := h
  have hl := Paired.length hv
  have R : Rel F m st (slots0 N xs) (L2.start names vs) H := by
    refine R0.slots ?_ ?_
    · unfold slots0 L2.start
      simp [hN, hl]
    · intro i x e
      have := slots_rel (N := N) hv i x e
      unfold L2.start
      rw [hN]
      simpa [hl] using this
  refine ⟨F, m, st, _, hc, R, ?_⟩
  unfold runI at P
  cases e : d (slots0 N xs) st with
  | nx S' st' =>
    rw [e] at P
    exact fun m' σ' H' a b => P m' .non H' a b.bare (.v .non fun z => nomatch z)
  | rt x st' => rw [e] at P; exact P
  | ex x S' st' =>
    rw [e] at P
    exact fun m' σ' H' cls dd a b er => P m' H' cls dd a b.bare er
  | bk S' st' => rw [e] at P; exact P.elim
  | ct S' st' => rw [e] at P; exact P.elim
  | bad => rw [e] at P; exact P.elim

/-! ### a def of the module -/
/-- what is known of the whole: the program, the world, the top's facts -/
structure Gd where
  P : Program
  w : World
  c : Ct
  mg : Str → Option Value
  base : Heap
  no : base.NoSeer
  tree : P.given.tree = none
  tb : ∀ q ∈ c.TT, LamX.TabB base mg q.1 q.2.1
/-- the def at f keeps the promise, at level k -/
def FnAt (g : Gd) (k : Nat) (f : Addr) (n : Nat) (ds : List Value) (sp : Sp) : Prop :=
  PySem.W.keepIn g.c.K (.ref f) = true ∧ ∃ fd ps, Binds g.c.K fd ps ds ∧ ps.length = n ∧ FnOk g.P g.w g.c.K g.mg g.base (L2.CX g.P g.w) k f fd ps sp
theorem FnAt.mono {g : Gd} {j k : Nat} {f : Addr} {n : Nat} {ds : List Value} {sp : Sp} (h : FnAt g j f n ds sp) (l : j ≤ k) : FnAt g k f n ds sp := by
  obtain ⟨h1, fd, ps, h2, h3, h4⟩ := h
  exact ⟨h1, fd, ps, h2, h3, h4.mono l⟩
/-- the context fits what is known -/
structure Cg (X : Cx) (g : Gd) : Prop where
  P : X.prog = g.P
  w : X.w = g.w
  K : X.K = g.c.K
  mg : X.mg = g.mg
  base : X.base = g.base
  calm : X.calm = true
  nd : X.N.Nodup
  pas : PassesOwn (model X.prog X.w) X.A X.env X.xe
  stk : ∃ e l, X.stack = e :: l ∧ e.scope.isGenerator = false ∧ e.scope.isCoroutine = false ∧ e.builtins = builtinsNs ∧ e.globals = mainGlobals
theorem Cg.cn {X : Cx} {g : Gd} (h : Cg X g) (r : Room 40 X.A) : Cn X g.c := ⟨h.K.symm, h.calm, h.nd, h.pas, r, by rw [h.base]; exact g.no, by rw [h.P]; exact g.tree, h.stk⟩
abbrev FunOf (g : Gd) (x qual : Str) (st : Stmt) (f : Addr) (fd : FuncData) : Prop := FunD g.c.K x qual (defArgs st) (defBody st) (defScope st) [] [] f fd
end A

/-! The A-layer, part 4: calls. -/
namespace A
open PySem PySem.Spec PyProof.Rows L2

mutual
/-- nothing lent is named -/
def noBor : PV → Bool
  | .tup xs => noBors xs
  | .lst t xs => t && noBors xs
  | .dct t _ xs => t && noBors xs
  | .obj t _ _ xs => t && noBors xs
  | _ => true
def noBors : List PV → Bool
  | [] => true
  | x :: xs => noBor x && noBors xs
end
mutual
theorem Val.noBor {c : Ct} {L L' : Bool → Addr → Prop} {H : Hp} (kL : ∀ a, L true a → H a ≠ none → L' true a) : ∀ {p : PV} {v : V}, Val c L H p v → noBor p = true → Val c L' H p v
  | _, _, .non, _ => .non
  | _, _, .bl b, _ => .bl b
  | _, _, .int b, _ => .int b
  | _, _, .str b, _ => .str b
  | _, _, .tup h r, e => .tup h (Vls.noBor kL r (by simpa [A.noBor] using e))
  | _, _, .lst (t := t) h l r, e => by
    simp only [A.noBor, Bool.and_eq_true] at e
    obtain ⟨e1, e2⟩ := e
    subst e1
    exact .lst h (kL _ l (some_ne h)) (Vls.noBor kL r e2)
  | _, _, .dct (t := t) h z l r, e => by
    simp only [A.noBor, Bool.and_eq_true] at e
    obtain ⟨e1, e2⟩ := e
    subst e1
    exact .dct h z (kL _ l (some_ne h)) (Vls.noBor kL r e2)
  | _, _, .obj (t := t) h z l r, e => by
    simp only [A.noBor, Bool.and_eq_true] at e
    obtain ⟨e1, e2⟩ := e
    subst e1
    exact .obj h z (kL _ l (some_ne h)) (Vls.noBor kL r e2)
  | _, _, .scr h, _ => .scr (h.imp (fun ⟨o, h, l⟩ => ⟨o, h, kL _ l (some_ne h)⟩) id)
  | _, _, .ty n, _ => .ty n
  | _, _, .cls n, _ => .cls n
  | _, _, .exn h, _ => .exn h
theorem Vls.noBor {c : Ct} {L L' : Bool → Addr → Prop} {H : Hp} (kL : ∀ a, L true a → H a ≠ none → L' true a) : ∀ {p : List PV} {v : List V}, Vls c L H p v → noBors p = true → Vls c L' H p v
  | _, _, .nil, _ => .nil
  | _, _, .cons h r, e => by
    simp only [A.noBors, Bool.and_eq_true] at e
    exact .cons (Val.noBor kL h e.1) (Vls.noBor kL r e.2)
end
/-- what a def without changes gives, as a result here -/
def PRes.res (r : PRes) (k : PV → Bool → Res AV) (st : Store) : Res AV := match r with
  | .ok p fr => k p fr
  | .ex e => .ex e st
  | .bad => .bad
/-- the arguments as values; what is lent must not come back -/
def callP (den : PDen) (xs : List AV) (st : Store) : Res AV := match toPs xs with
  | some ps => (den ps).res (fun p fr => .ok (.v p fr) st) st
  | none => match views false st xs with
    | some ps => match den ps with
      | .ok p fr => bif noBor p then .ok (.v p fr) st else .bad
      | .ex e => bif e.fs.all (fun q => noBor q.2) then .ex e st else .bad
      | .bad => .bad
    | none => .bad
/-- the answer, a new list, goes into the store -/
def pushP (p : PV) (fr : Bool) (st : Store) : Res AV := match p, fr with
  | .lst _ ys, true => .ok (.ref st.length) (st ++ [.lst (ys.map (AV.v · false))])
  | _, _ => .bad
def callU (den : PDen) (xs : List AV) (st : Store) : Res AV := match toPs xs with
  | some ps => (den ps).res (fun p fr => pushP p fr st) st
  | none => match views false st xs with
    | some ps => match den ps with
      | .ok p fr => bif noBor p then pushP p fr st else .bad
      | .ex e => bif e.fs.all (fun q => noBor q.2) then .ex e st else .bad
      | .bad => .bad
    | none => .bad
section
variable {c : Ct} {W : WX} {F : Fix} {m : Nat → Addr} {H : Hp} {S : Slots} {σ : St} {st : Store} {Q : VK} {den : PDen} {xs : List AV} {vs : List V} {n : Nat}
theorem lw_true {N : Nat} {a : Addr} : Lw F m N true a ↔ F.A a ∧ ¬ F.Z a ∧ ∀ i, i < N → m i ≠ a := by
  unfold Lw LL
  rw [if_pos rfl]
theorem lw_false {N : Nat} {a : Addr} : Lw F m N false a ↔ F.B a ∧ ¬ F.Z a ∧ ∀ i, i < N → m i ≠ a := by
  unfold Lw LL
  rw [if_neg Bool.false_ne_true]
/-- one core for both: K tells what is done with the answer -/
theorem call_core (R : Rel F m st S σ H) (rx : AVls0 F m st.length H xs vs) (hn : vs.length = n) {k : PV → Bool → Res AV}
    (hk : ∀ p fr v H', Ext F.c H H' → Rel F m st S σ H' → Val F.c (Lw F m st.length) H' p v → (fr = true → FreshP F.c (Lw F m st.length) H H' p v) → PostE rV W F m st.length H S σ (k p fr) Q → Q v H')
    (P : PostE rV W F m st.length H S σ (match toPs xs with
      | some ps => (den ps).res k st
      | none => match views false st xs with
        | some ps => match den ps with
          | .ok p fr => bif noBor p then k p fr else .bad
          | .ex e => bif e.fs.all (fun q => noBor q.2) then .ex e st else .bad
          | .bad => .bad
        | none => .bad) Q) : spP F.c n den vs H Q fun cls d H' => W cls d σ H' := by
  refine ⟨hn, ?_⟩
  have hA : ∀ p, H p = none → Lw F m st.length true p := fun p hp => R.free hp
  cases e : toPs xs with
  | some ps =>
    simp only [e] at P
    have eL : LL (Lw F m st.length true) (Lw F m st.length false) = Lw F m st.length := by
      funext t a
      cases t
      · show (if false = true then _ else _) = _
        rw [if_neg Bool.false_ne_true]
      · show (if true = true then _ else _) = _
        rw [if_pos rfl]
    refine ⟨Lw F m st.length true, Lw F m st.length false, ps, hA, R.tab, by rw [eL]; exact toPs_ok rx e, ?_⟩
    rw [eL]
    cases q : den ps with
    | ok p fr =>
      rw [q] at P
      exact fun v H' s hv hf => hk p fr v H' s (R.ext s) hv hf P
    | ex x =>
      rw [q] at P
      exact fun cls d H' s er => P m H' cls d (Step.ext s) (R.ext s) er
    | bad => rw [q] at P; exact P.elim
  | none =>
    simp only [e] at P
    cases e2 : views false st xs with
    | none => simp only [e2] at P; exact P.elim
    | some ps =>
      simp only [e2] at P
      have e3 : ∀ t a, LL (Lw F m st.length true) (fun _ => True) t a = (if t = true then Lw F m st.length true a else True) := fun _ _ => rfl
      refine ⟨Lw F m st.length true, fun _ => True, ps, hA, R.tab, views_ok R (fun t a l _ => ?_) (fun i hi => ?_) rx e2, ?_⟩
      · cases t
        · show if false = true then _ else True
          rw [if_neg Bool.false_ne_true]; trivial
        · show if true = true then _ else True
          rw [if_pos rfl]; exact l
      · show if false = true then _ else True
        rw [if_neg Bool.false_ne_true]; trivial
      · have down : ∀ {H' : Hp} (a : Addr), LL (Lw F m st.length true) (fun _ => True) true a → H' a ≠ none → Lw F m st.length true a := fun a l _ => by
          have l : if true = true then Lw F m st.length true a else True := l
          rw [if_pos rfl] at l; exact l
        cases q : den ps with
        | ok p fr =>
          simp only [q] at P
          cases nb : noBor p with
          | false => rw [nb] at P; exact P.elim
          | true =>
            rw [nb] at P
            refine fun v H' s hv hf => hk p fr v H' s (R.ext s) (Val.noBor down hv nb) (fun z => ?_) P
            obtain ⟨t, ys, a, us, rfl, rfl, h0, ha, r⟩ := hf z
            simp only [noBor, Bool.and_eq_true] at nb
            exact ⟨t, ys, a, us, rfl, rfl, h0, ha, Vls.noBor (fun b l e => ⟨down b l.1 e, l.2⟩) r nb.2⟩
        | ex x =>
          simp only [q] at P
          cases nb : x.fs.all (fun q => noBor q.2) with
          | false => rw [nb] at P; exact P.elim
          | true =>
            rw [nb] at P
            refine fun cls d H' s er => P m H' cls d (Step.ext s) (R.ext s) ?_
            obtain ⟨h1, h2⟩ := er
            refine ⟨h1, ?_⟩
            rcases h2 with h2 | ⟨hne, dx, us, hd, hx, hf⟩
            · exact .inl h2
            · refine .inr ⟨hne, dx, us, hd, hx, fun f p e => ?_⟩
              obtain ⟨v, a, b⟩ := hf f p e
              have : noBor p = true := by
                rw [List.all_eq_true] at nb
                obtain ⟨l1, l2, h, _⟩ := List.lookup_eq_some_iff.mp e
                exact nb (f, p) (by rw [h]; simp)
              exact ⟨v, a, Val.noBor down b this⟩
        | bad => simp only [q] at P; exact P.elim
theorem callP_ok (R : Rel F m st S σ H) (rx : AVls0 F m st.length H xs vs) (hn : vs.length = n) (P : PostE rV W F m st.length H S σ (callP den xs st) Q) : spP F.c n den vs H Q fun cls d H' => W cls d σ H' :=
  call_core (k := fun p fr => .ok (.v p fr) st) R rx hn (fun p fr v H' s R' hv hf P => P m v H' (Step.ext s) R' (.v hv fun z => by
    obtain ⟨t, ys, a, us, h1, h2, h0, ha, r⟩ := hf z
    exact ⟨t, ys, a, us, h1, h2, R.h0 h0, ha, r⟩)) P
theorem callU_ok (R : Rel F m st S σ H) (rx : AVls0 F m st.length H xs vs) (hn : vs.length = n) (P : PostE rV W F m st.length H S σ (callU den xs st) Q) : spP F.c n den vs H Q fun cls d H' => W cls d σ H' :=
  call_core (k := fun p fr => pushP p fr st) R rx hn (fun p fr v H' s R' hv hf P => by
    cases fr with
    | false => cases p <;> exact P.elim
    | true =>
      obtain ⟨t, ys, a, us, rfl, rfl, h0, ha, r⟩ := hf rfl
      simp only [pushP] at P
      obtain ⟨m', s', R2, e⟩ := R.pushX (o := .lst (ys.map (AV.v · false))) (u := .lst us) h0 s ha fun m' s' e => by
        refine .lst (AVls.zero ?_)
        have : Vls F.c (Lw F m' (st.length + 1)) H' ys us := Vls.ground (fun t b l _ => ⟨l.1.1, l.1.2.1, fun i hi z => by
          by_cases q : i < st.length
          · exact l.1.2.2 i q ((s'.same i q).symm.trans z)
          · have : i = st.length := by omega
            subst this
            exact l.2 (z.symm.trans e)⟩) r
        exact Vls.avls this
      have := P m' (.ref (m' st.length)) H' s' R2 (.ref (by simp))
      rw [e] at this; exact this) P
/-- the whole state goes to the def -/
theorem callI_ok {den : IDen} (R : Rel F m st S σ H) (rx : AVls0 F m st.length H xs vs) (hn : vs.length = n) (P : PostE rV W F m st.length H S σ (den xs st) Q) : spI F.c n den vs H Q fun cls d H' => W cls d σ H' := by
  refine ⟨hn, { F with H0 := H, O0 := fun a => ∃ i, i < st.length ∧ m i = a, hA := fun p hp => F.hA p (R.h0 hp) }, m, st, xs, rfl, rfl, rfl, ?_, ?_, ?_⟩
  · refine ⟨R.inj, fun i hi => .inl ⟨i, hi, rfl⟩, fun b o h _ _ => h, fun b o h _ => h, fun b h => h, fun b h => R.zd b h, fun i o e => ?_, rfl, fun i x e => by simp at e, R.tab⟩
    obtain ⟨u, h1, h2⟩ := R.sto i o e
    exact ⟨u, h1, AObj.ground (F := F) (F' := { F with H0 := H, O0 := fun a => ∃ i, i < st.length ∧ m i = a, hA := fun p hp => F.hA p (R.h0 hp) }) rfl (fun t a l _ => l) h2⟩
  · exact Paired.mapP rx fun a b => AVal0.ground (F := F) (F' := { F with H0 := H, O0 := fun a => ∃ i, i < st.length ∧ m i = a, hA := fun p hp => F.hA p (R.h0 hp) }) rfl (fun t a l _ => l)
  · have back : ∀ {m' : Nat → Addr} {st' : Store} {H' : Hp}, Step m st.length H m' st'.length H' → Rel { F with H0 := H, O0 := fun a => ∃ i, i < st.length ∧ m i = a, hA := fun p hp => F.hA p (R.h0 hp) } m' st' [] [] H' → Rel F m' st' S σ H' := fun {m' st' H'} s R' => by
      refine ⟨R'.inj, fun i hi => ?_, fun b o h1 h2 nt => ?_, fun b o h1 h2 => s.imm b o (R.imm b o h1 h2) h2, fun b h => s.dom b (R.dom b h), fun b h => R'.zd b h, fun i o e => ?_, R.len, fun i x e => ?_, R'.tab⟩
      · by_cases q : i < st.length
        · rw [s.same i q]; exact R.own i q
        · exact .inr (R.h0 (s.new i (by omega) hi))
      · refine s.keep b o (R.keep b o h1 h2 nt) (fun i hi z => ?_) nt
        rcases R.own i hi with q | q
        · exact h2 (z ▸ q)
        · rw [z, h1] at q; cases q
      · obtain ⟨u, h1, h2⟩ := R'.sto i o e
        exact ⟨u, h1, AObj.ground (F := { F with H0 := H, O0 := fun a => ∃ i, i < st.length ∧ m i = a, hA := fun p hp => F.hA p (R.h0 hp) }) (F' := F) rfl (fun t a l _ => l) h2⟩
      · obtain ⟨v, h1, h2⟩ := R.slo i x e
        exact ⟨v, h1, AVal.step s h2⟩
    cases e : den xs st with
    | ok x st' =>
      rw [e] at P
      exact fun m' v H' s R' r => P m' v H' s (back s R') (AVal.ground (F := { F with H0 := H, O0 := fun a => ∃ i, i < st.length ∧ m i = a, hA := fun p hp => F.hA p (R.h0 hp) }) (F' := F) rfl (fun a z _ => R.h0 z) (fun t a l _ => l) r)
    | ex x st' =>
      rw [e] at P
      exact fun m' H' cls d s R' er => P m' H' cls d s (back s R') er
    | bad => rw [e] at P; exact P
end

/-! ### the context of a def of the module -/
structure Entry where
  cdv : Value
  A : Around
  outer : List Env
  s : Shared
  H : Hp
  E : XK
abbrev XOf (g : Gd) (names : List Str) (qual : Str) (st : Stmt) (f : Addr) (e : Entry) : Cx := cxOf (L2.CX g.P g.w) g.P g.w g.c.K g.mg g.base names qual (defScope st) f e.cdv e.A e.outer e.s e.H e.E
abbrev WOf (e : Entry) : WX := fun cls d _ H => e.E cls d H
theorem cgOf {g : Gd} {names : List Str} {qual : Str} {st : Stmt} {f : Addr} {e : Entry} {ps : List Str} (sc : FnScope names ps (defScope st)) : Cg (XOf g names qual st f e) g :=
  ⟨rfl, rfl, rfl, rfl, rfl, rfl, sc.nd, passes_of rfl, ⟨_, _, rfl, sc.gen, sc.co, rfl, rfl⟩⟩
theorem tkOf {g : Gd} {names : List Str} {qual : Str} {st : Stmt} {f : Addr} {e : Entry} : Takes (XOf g names qual st f e) (WOf e) := takes_of rfl rfl rfl rfl
/-- a def by its body -/
theorem fnP {g : Gd} {x qual : Str} {st : Stmt} {f : Addr} {fd : FuncData} {dvs : List V} {kws : List (Str × V)} {names ps : List Str} {N n k : Nat} {d : DS} (FF : FunD g.c.K x qual (defArgs st) (defBody st) (defScope st) dvs kws f fd) (sc : FnScope names ps (defScope st)) (hN : names.length = N) (hn : ps.length = n)
    (body : ∀ e : Entry, Room k (XOf g names qual st f e).A → PSsA (XOf g names qual st f e) g.c (WOf e) (defBody st) d) : FnOk g.P g.w g.c.K g.mg g.base (L2.CX g.P g.w) (k + 1) f fd ps (spP g.c n (runP N d)) :=
  FF.ok sc (fun vs H Q E h => h.1.trans hn.symm) fun cdv A outer s H vs Q E hr h => ⟨_, body ⟨cdv, A, outer, s, H, E⟩ hr, spP_body hN h⟩
theorem fnI {g : Gd} {x qual : Str} {st : Stmt} {f : Addr} {fd : FuncData} {dvs : List V} {kws : List (Str × V)} {names ps : List Str} {N n k : Nat} {d : DS} (FF : FunD g.c.K x qual (defArgs st) (defBody st) (defScope st) dvs kws f fd) (sc : FnScope names ps (defScope st)) (hN : names.length = N) (hn : ps.length = n)
    (body : ∀ e : Entry, Room k (XOf g names qual st f e).A → PSsA (XOf g names qual st f e) g.c (WOf e) (defBody st) d) : FnOk g.P g.w g.c.K g.mg g.base (L2.CX g.P g.w) (k + 1) f fd ps (spI g.c n (runI N d)) :=
  FF.ok sc (fun vs H Q E h => h.1.trans hn.symm) fun cdv A outer s H vs Q E hr h => ⟨_, body ⟨cdv, A, outer, s, H, E⟩ hr, spI_body hN h⟩

/-! ### f(e, ..) -/
section
variable {X : Cx} {g : Gd} {W : WX} {k n : Nat} {f : Addr} {x : Str} {ds : List Value} {dvs : List V} {dps : List PV} {e : Expr} {es : List Expr} {da : DA} {p pos : Pos}
theorem run_fnA {sp : Sp} {pins : List (Addr × Obj)} {σ : St} {H : Hp} {s : Shared} {Q : VK} {us : List Value} {vs : List V} (cg : Cg X g) (tk : Takes X W) (G : FnAt g k f n ds sp) (hr : Room k X.A) (hd : Vals dvs ds) (I : Inv X pins σ H s) (r : Vals vs us)
    (h : sp (vs ++ dvs) H Q fun cls d H' => W cls d σ H') : wpAny (model X.prog X.w) X.A (call (.ref f) us) (EP X pins σ Q) X.xe s := by
  obtain ⟨kp, fd, ps, hb, hn, FO⟩ := G
  have r2 : Vals (vs ++ dvs) (us ++ ds) := r.append hd
  have hl : (us ++ ds).length = ps.length := by rw [← r2.length]; exact FO.len _ _ _ _ h
  rw [← cg.P, ← cg.w, ← cg.K, ← cg.mg, ← cg.base] at FO
  rw [← cg.K] at hb
  refine wpAny_call (codeAny_mono (FO.run X.A X.stack s H ⟨us, []⟩ (us ++ ds) (vs ++ dvs) Q _ hr I.env0 (hb s us I.kIn hl) r2 h) fun r s' hq => ?_)
  cases r with
  | error e => exact passAt tk σ pins H s e s' I hq
  | ok fl =>
    cases fl with
    | ret u => exact I.after hq
    | next => exact False.elim hq
    | brk => exact False.elim hq
    | cont => exact False.elim hq
def tCallA (sp : Sp) (dvs : List V) (W : WX) (t : TA) : TE := fun σ H Q => t σ H fun vs H1 => sp (vs ++ dvs) H1 Q fun cls d H' => W cls d σ H'
theorem pe_callA {sp : Sp} {t : TA} (cg : Cg X g) (tk : Takes X W) (G : FnAt g k f n ds sp) (hr : Room k X.A) (hg : Gl X x) (hm : g.mg x = some (.ref f)) (hd : Vals dvs ds) (ha : PA X (e :: es) t) (hdb : (x == ("__debug__" : Str)) = false := by decide)
    (he : starEach (e :: es) X.env = (false, eval e X.env) :: starEach es X.env := by rfl) (hpl : (backTo pos (starEach es X.env)).any (·.1) = false := by rfl) : PE X (.Call (.Name x p) (e :: es) [] pos) (tCallA sp dvs W t) := by
  refine ⟨fun pins s σ H Q I h => ?_⟩
  refine wpAny_Call_Name_kw (ld_glob I hg (by rw [cg.mg]; exact hm) ?_ hdb)
  refine PySem.W.callWith_K (h₀ := X.base) I.ok.mod.kin (by rw [cg.K]; exact G.1) (thn (ha.run pos pins s σ H _ I h) fun us s1 ⟨vs, H1, I1, r, q⟩ => ⟨I1.kIn, ?_⟩) he hpl
  exact run_fnA cg tk G hr hd I1 r q
theorem pe_callA0 {sp : Sp} (cg : Cg X g) (tk : Takes X W) (G : FnAt g k f n ds sp) (hr : Room k X.A) (hg : Gl X x) (hm : g.mg x = some (.ref f)) (hd : Vals dvs ds) (hdb : (x == ("__debug__" : Str)) = false := by decide) :
    PE X (.Call (.Name x p) [] [] pos) (tCallA sp dvs W tNil) := by
  refine ⟨fun pins s σ H Q I h => ?_⟩
  refine wpAny_Call_Name_kw (ld_glob I hg (by rw [cg.mg]; exact hm) ?_ hdb)
  exact PySem.W.callWith_K0 I.kIn (by rw [cg.K]; exact G.1) (run_fnA (us := []) (vs := []) cg tk G hr hd I .nil h)
/-- the arguments, n of them, then what is made of them -/
def dArg (n : Nat) (f : List AV → Store → Res AV) (da : DA) : DE := fun S st => (da S st).then fun xs st1 => bif Nat.beq xs.length n then f xs st1 else .bad
abbrev dCall (n : Nat) (den : PDen) (da : DA) : DE := dArg n (callP den) da
abbrev dCallU (n : Nat) (den : PDen) (da : DA) : DE := dArg n (callU den) da
abbrev dCallI (n : Nat) (den : IDen) (da : DA) : DE := dArg n den da
/-- with values of defaults behind -/
def withD (dps : List PV) (f : List AV → Store → Res AV) : List AV → Store → Res AV := fun xs st => f (xs ++ dps.map (AV.v · false)) st
/-- what a call's denotation asks of the promise -/
def CallOk (g : Gd) (sp : Sp) (n : Nat) (f : List AV → Store → Res AV) : Prop := ∀ (W : WX) (F : Fix) (m : Nat → Addr) (st : Store) (S : Slots) (σ : St) (H : Hp) (xs : List AV) (vs : List V) (Q : VK), F.c = g.c → Rel F m st S σ H → AVls0 F m st.length H xs vs → vs.length = n →
  PostE rV W F m st.length H S σ (f xs st) Q → sp vs H Q fun cls d H' => W cls d σ H'
theorem ok_P {den : PDen} : CallOk g (spP g.c n den) n (callP den) := fun W F m st S σ H xs vs Q hc R rx hn P => hc ▸ callP_ok R rx hn P
theorem ok_U {den : PDen} : CallOk g (spP g.c n den) n (callU den) := fun W F m st S σ H xs vs Q hc R rx hn P => hc ▸ callU_ok R rx hn P
theorem ok_I {den : IDen} : CallOk g (spI g.c n den) n den := fun W F m st S σ H xs vs Q hc R rx hn P => hc ▸ callI_ok R rx hn P
theorem args_ok {sp : Sp} {dvs : List V} {dps : List PV} {j : Nat} {f : List AV → Store → Res AV} {Q : VK} {σ : St} {H : Hp} (hf : CallOk g sp (j + dps.length) f) (hd : ∀ L H, Vls g.c L H dps dvs) :
    tG rV g.c W (dArg j (withD dps f) da) σ H Q → tCallA sp dvs W (tG rA g.c W da) σ H Q := fun ⟨F, m, s, S, hc, R, P⟩ =>
  ⟨F, m, s, S, hc, R, (PostE.bind P).imp fun vs H1 ⟨m1, s1, xs, _, a1, R1, r1, P1⟩ => by
    have hl := Paired.length r1
    cases q : Nat.beq xs.length j with
    | false => simp only [q, cond_false] at P1; exact P1.elim
    | true =>
      simp only [q, cond_true] at P1
      have e := Nat.eq_of_beq_eq_true q
      have hd1 : Vls F.c (Lw F m1 s1.length) H1 dps dvs := hc ▸ hd _ _
      exact hf W F m1 s1 S σ H1 _ _ Q hc R1 (pairedAppend (AVls.zero r1) (AVls.zero (Vls.avls hd1))) (by rw [List.length_append, ← hl, e, ← Vls.length hd1]) P1⟩
theorem args_ok0 {sp : Sp} {f : List AV → Store → Res AV} {Q : VK} {σ : St} {H : Hp} (hf : CallOk g sp n f) : tG rV g.c W (dArg n f da) σ H Q → tCallA sp [] W (tG rA g.c W da) σ H Q := fun ⟨F, m, s, S, hc, R, P⟩ =>
  ⟨F, m, s, S, hc, R, (PostE.bind P).imp fun vs H1 ⟨m1, s1, xs, _, a1, R1, r1, P1⟩ => by
    have hl := Paired.length r1
    cases q : Nat.beq xs.length n with
    | false => simp only [q, cond_false] at P1; exact P1.elim
    | true =>
      simp only [q, cond_true] at P1
      have e := Nat.eq_of_beq_eq_true q
      show sp (vs ++ []) H1 Q _
      rw [List.append_nil]
      exact hf W F m1 s1 S σ H1 _ _ Q hc R1 (AVls.zero r1) (by rw [← hl, e]) P1⟩
/-- f(e, ..), every parameter given -/
theorem pea_call {sp : Sp} {f' : List AV → Store → Res AV} (hf : CallOk g sp n f') (cg : Cg X g) (tk : Takes X W) (hm : g.mg x = some (.ref f)) (G : FnAt g k f n [] sp) (hr : Room k X.A) (ha : PAA X g.c W (e :: es) da) (hg : Gl X x := by rfl) (hdb : (x == ("__debug__" : Str)) = false := by decide)
    (he : starEach (e :: es) X.env = (false, eval e X.env) :: starEach es X.env := by rfl) (hpl : (backTo pos (starEach es X.env)).any (·.1) = false := by rfl) : PEA X g.c W (.Call (.Name x p) (e :: es) [] pos) (dArg n f' da) :=
  (pe_callA cg tk G hr hg hm .nil ha hdb he hpl).imp fun _ _ _ => args_ok0 hf
theorem pea_call0 {sp : Sp} {f' : List AV → Store → Res AV} (hf : CallOk g sp 0 f') (cg : Cg X g) (tk : Takes X W) (hm : g.mg x = some (.ref f)) (G : FnAt g k f 0 [] sp) (hr : Room k X.A) (hg : Gl X x := by rfl) (hdb : (x == ("__debug__" : Str)) = false := by decide) :
    PEA X g.c W (.Call (.Name x p) [] [] pos) (dArg 0 f' dNil) :=
  (pe_callA0 cg tk G hr hg hm .nil hdb).imp fun σ H Q h => by
    have := args_ok0 (da := dNil) hf h
    obtain ⟨F, m, s, S, hc, R, P⟩ := this
    exact PostE.here P R .nil
/-- f(e, ..), the last parameters by their defaults -/
theorem pea_callD {sp : Sp} {j : Nat} {f' : List AV → Store → Res AV} (hf : CallOk g sp (j + dps.length) f') (hd : ∀ L H, Vls g.c L H dps dvs) (hv : Vals dvs ds) (cg : Cg X g) (tk : Takes X W) (hm : g.mg x = some (.ref f)) (G : FnAt g k f n ds sp) (hr : Room k X.A) (ha : PAA X g.c W (e :: es) da) (hg : Gl X x := by rfl) (hdb : (x == ("__debug__" : Str)) = false := by decide)
    (he : starEach (e :: es) X.env = (false, eval e X.env) :: starEach es X.env := by rfl) (hpl : (backTo pos (starEach es X.env)).any (·.1) = false := by rfl) : PEA X g.c W (.Call (.Name x p) (e :: es) [] pos) (dArg j (withD dps f') da) :=
  (pe_callA cg tk G hr hg hm hv ha hdb he hpl).imp fun _ _ _ => args_ok hf hd
end
/-! ### built-ins by their calls -/
section
variable {X : Cx} {c : Ct} {W : WX} {x : Str} {e : Expr} {es : List Expr} {da : DA} {p pos : Pos} {id T : String} {r : List V → Hp → VK → Prop}
def CRok (c : Ct) (r : List V → Hp → VK → Prop) (f : List AV → Store → Res AV) : Prop := ∀ (W : WX) (F : Fix) (m : Nat → Addr) (st : Store) (S : Slots) (σ : St) (H : Hp) (xs : List AV) (vs : List V) (Q : VK), F.c = c → Rel F m st S σ H → AVls F m st.length H xs vs →
  PostE rV W F m st.length H S σ (f xs st) Q → r vs H Q
def dB1 (f : List AV → Store → Res AV) (da : DA) : DE := fun S st => (da S st).then f
theorem pea_callB {f : List AV → Store → Res AV} (hc : CallR X (.builtin id) r) (hf : CRok c r f) (hm : X.mg x = none) (hv : bootBuiltins x = some (.builtin id)) (ha : PAA X c W (e :: es) da) (hg : Gl X x := by rfl) (hn : x ≠ "__name__" := by decide) (hdb : (x == ("__debug__" : Str)) = false := by decide)
    (he : starEach (e :: es) X.env = (false, eval e X.env) :: starEach es X.env := by rfl) (hpl : (backTo pos (starEach es X.env)).any (·.1) = false := by rfl) : PEA X c W (.Call (.Name x p) (e :: es) [] pos) (dB1 f da) :=
  (pe_callB hc hg hm hv ha hn hdb he hpl).imp fun σ H Q ⟨F, m, s, S, hc, R, P⟩ => ⟨F, m, s, S, hc, R, (PostE.bind P).imp fun vs H1 ⟨m1, s1, xs, _, a1, R1, r1, P1⟩ => hf W F m1 s1 S σ H1 xs vs Q hc R1 r1 P1⟩
theorem pea_callTy {f : List AV → Store → Res AV} (hc : CallR X (.type T) r) (hf : CRok c r f) (hm : X.mg x = none) (hv : bootBuiltins x = some (.type T)) (ha : PAA X c W (e :: es) da) (hg : Gl X x := by rfl) (hn : x ≠ "__name__" := by decide) (hdb : (x == ("__debug__" : Str)) = false := by decide)
    (he : starEach (e :: es) X.env = (false, eval e X.env) :: starEach es X.env := by rfl) (hpl : (backTo pos (starEach es X.env)).any (·.1) = false := by rfl) : PEA X c W (.Call (.Name x p) (e :: es) [] pos) (dB1 f da) :=
  (pe_callTy hc hg hm hv ha hn hdb he hpl).imp fun σ H Q ⟨F, m, s, S, hc, R, P⟩ => ⟨F, m, s, S, hc, R, (PostE.bind P).imp fun vs H1 ⟨m1, s1, xs, _, a1, R1, r1, P1⟩ => hf W F m1 s1 S σ H1 xs vs Q hc R1 r1 P1⟩
end
end A

/-! The A-layer, part 5: subscripts, comparisons of data, built-ins. -/
namespace A
open PySem PySem.Spec PyProof.Rows L2

/-! ### subscripts -/
def okV (st : Store) (o : Option AV) : Res AV := match o with
  | some x => .ok (strip x) st
  | none => .bad
def okP (st : Store) (o : Option PV) : Res AV := match o with
  | some p => .ok (.v p false) st
  | none => .bad
def fIx : AV → AV → Store → Res AV := fun x y st => match y with
  | .v (.int i) _ => match x with
    | .v (.tup xs) _ => okP st (atI xs i)
    | .v (.lst _ xs) _ => okP st (atI xs i)
    | .v (.scr ns) _ => okP st ((atI ns i).map .int)
    | .v (.str z) _ => bif Nat.ble z.length 1000000 then okP st ((atI z.cps.toList i).map fun q => .str ⟨#[q]⟩) else .bad
    | .ref n => match st[n]? with
      | some (.lst xs) => okV st (atI xs i)
      | _ => .bad
    | _ => .bad
  | _ => .bad
section
variable {F : Fix} {m : Nat → Addr} {N : Nat} {H : Hp} {S : Slots} {σ : St} {st : Store} {c : Ct} {L : Bool → Addr → Prop}
theorem Vls.atI {ps : List PV} {vs : List V} (h : Vls c L H ps vs) {i : Int} {p : PV} (e : atI ps i = some p) : ∃ v, L2.atI vs i = some v ∧ Val c L H p v := by
  unfold L2.atI at e ⊢
  rw [← Vls.length h]
  cases q : ixN ps.length i with
  | none => rw [q] at e; cases e
  | some j =>
    rw [q] at e
    exact Vls.get h e
theorem AVls0.atI {xs : List AV} {vs : List V} (h : AVls0 F m N H xs vs) {i : Int} {x : AV} (e : L2.atI xs i = some x) : ∃ v, L2.atI vs i = some v ∧ AVal0 F m N H x v := by
  unfold L2.atI at e ⊢
  rw [← Paired.length h]
  cases q : ixN xs.length i with
  | none => rw [q] at e; cases e
  | some j =>
    rw [q] at e
    have e : xs[j]? = some x := e
    show ∃ v, vs[j]? = some v ∧ _
    clear q
    revert e
    induction h generalizing j with
    | nil => intro e; simp at e
    | cons a _ ih =>
      intro e
      cases j with
      | zero => simp at e; subst e; exact ⟨_, rfl, a⟩
      | succ j =>
        have := ih j (by simpa using e) (by simpa using e)
        simpa using this
theorem okP_ok {W : WX} {o : Option PV} {Q : VK} {v : V} (P : PostE rV W F m st.length H S σ (okP st o) Q) (R : Rel F m st S σ H) (h : ∀ p, o = some p → Val F.c (Lw F m st.length) H p v) : Q v H := by
  cases o with
  | none => exact P.elim
  | some p => exact PostE.here P R (.v (h p rfl) fun e => nomatch e)
theorem okP_some {W : WX} {o : Option PV} {Q : VK} (P : PostE rV W F m st.length H S σ (okP st o) Q) : ∃ p, o = some p := by
  cases o with
  | none => exact P.elim
  | some p => exact ⟨p, rfl⟩
end
section
variable {X : Cx} {c : Ct} {W : WX} {a b : Expr} {da db : DE} {pos : Pos}
theorem r2_ix : R2ok c (rIx c.K) fIx := by
  intro W F m st S σ H x y v w Q hc R rx ry P
  unfold fIx at P
  split at P
  · rename_i i _
    have ey := isI ry
    split at P
    · obtain ⟨a, vs, rfl, h1, r1⟩ := tup_ok rx
      obtain ⟨p, e⟩ := okP_some P
      obtain ⟨u, e2, h2⟩ := Vls.atI r1 e
      rw [hc] at h1
      exact .inr (.inl ⟨a, vs, i, u, rfl, ey, h1, e2, okP_ok P R fun q z => by rw [e] at z; cases z; exact h2⟩)
    · cases rx with
      | v h _ =>
        cases h with
        | lst h l r1 =>
          obtain ⟨p, e⟩ := okP_some P
          obtain ⟨u, e2, h2⟩ := Vls.atI r1 e
          exact .inl ⟨_, _, i, u, rfl, ey, SqL.of h, e2, okP_ok P R fun q z => by rw [e] at z; cases z; exact h2⟩
    · obtain ⟨a, rfl, h1⟩ := scr_ok rx
      rename_i ns _
      obtain ⟨p, e⟩ := okP_some P
      rw [hc] at h1
      cases q : L2.atI ns i with
      | none => rw [q] at e; cases e
      | some j =>
        rw [q] at e P
        cases e
        refine .inl ⟨a, _, i, .int j, rfl, ey, h1, ?_, PostE.here P R (.v (.int j) fun e => nomatch e)⟩
        unfold L2.atI at q ⊢
        rw [List.length_map]
        cases q2 : ixN ns.length i with
        | none => rw [q2] at q; cases q
        | some k =>
          rw [q2] at q
          have q : ns[k]? = some j := q
          show (ns.map V.int)[k]? = some (.int j)
          rw [List.getElem?_map, q]; rfl
    · rename_i z _
      cases q : Nat.ble z.length 1000000 with
      | false => rw [q] at P; exact P.elim
      | true =>
        rw [q] at P
        simp only [cond_true] at P
        obtain ⟨p, e⟩ := okP_some P
        cases q2 : L2.atI z.cps.toList i with
        | none => rw [q2] at e; cases e
        | some k =>
          rw [q2] at e P
          cases e
          exact .inr (.inr ⟨z, i, k, isS rx, ey, le_line q, q2, PostE.here P R (.v (.str _) fun e => nomatch e)⟩)
    · rename_i n
      cases rx with
      | ref hn =>
        cases q : st[n]? with
        | none => rw [q] at P; exact P.elim
        | some o =>
          rw [q] at P
          obtain ⟨u, h1, h2⟩ := R.sto n o q
          cases h2 with
          | lst r1 =>
            simp only at P
            cases e : L2.atI ‹List AV› i with
            | none => rw [e] at P; exact P.elim
            | some x =>
              rw [e] at P
              obtain ⟨u, e2, h3⟩ := AVls0.atI r1 e
              exact .inl ⟨_, _, i, u, rfl, ey, SqL.of h1, e2, PostE.here P R h3.strip⟩
          | _ => exact P.elim
    · exact P.elim
  · exact P.elim
theorem pea_ix (hK : c.K = X.K := by rfl) (ha : PEA X c W a da) (hb : PEA X c W b db) (hs : PlainIx b := by exact fun _ _ => rfl) : PEA X c W (.Subscript a b pos) (dBin fIx da db) :=
  (pe_ix (r := rIx c.K) (by rw [hK]; exact ix_seq) ha hb hs).imp fun _ _ _ => bin_ok r2_ix
end

/-! ### data compared -/
mutual
def toD : PV → Option PyData
  | .non => some .none
  | .bl b => some (.bool b)
  | .int i => some (.int i)
  | .str x => some (.str x)
  | .tup xs => (toDs xs).map .tuple
  | .lst _ xs => (toDs xs).map .list
  | .scr ns => some (.list (ns.map .int))
  | _ => none
def toDs : List PV → Option (List PyData)
  | [] => some []
  | x :: xs => match toD x, toDs xs with
    | some d, some ds => some (d :: ds)
    | _, _ => none
end
section
variable {c : Ct} {L : Bool → Addr → Prop} {H : Hp}
mutual
theorem dp_of : ∀ {p : PV} {v : V} {d : PyData}, Val c L H p v → toD p = some d → Dp c.K H v d
  | _, _, _, .non, e => by cases e; exact .non
  | _, _, _, .bl b, e => by cases e; exact .bl b
  | _, _, _, .int b, e => by cases e; exact .int b
  | _, _, _, .str b, e => by cases e; exact .str b
  | _, _, _, .tup (xs := xs) h r, e => by
    unfold toD at e
    cases q : toDs xs with
    | none => rw [q] at e; cases e
    | some ds => rw [q] at e; cases e; exact .tup (.inl (.inl h)) (dps_of r q)
  | _, _, _, .lst (xs := xs) h l r, e => by
    unfold toD at e
    cases q : toDs xs with
    | none => rw [q] at e; cases e
    | some ds => rw [q] at e; cases e; exact .lst (SqL.of h) (dps_of r q)
  | _, _, _, .dct _ _ _ _, e => by cases e
  | _, _, _, .obj _ _ _ _, e => by cases e
  | _, _, _, .ty _, e => by cases e
  | _, _, _, .cls _, e => by cases e
  | _, _, _, .exn _, e => by cases e
  | _, _, _, .scr (ns := ns) h, e => by
    cases e
    refine .lst (scr_sq (scr_of h)) ?_
    clear h
    induction ns with
    | nil => exact .nil
    | cons n ns ih => exact .cons (.int n) ih
theorem dps_of : ∀ {p : List PV} {v : List V} {d : List PyData}, Vls c L H p v → toDs p = some d → DpAll c.K H v d
  | _, _, _, .nil, e => by cases e; exact .nil
  | _, _, _, .cons (x := x) (xs := xs) h r, e => by
    unfold toDs at e
    cases q : toD x with
    | none => rw [q] at e; cases e
    | some d =>
      cases q2 : toDs xs with
      | none => rw [q, q2] at e; cases e
      | some ds => rw [q, q2] at e; cases e; exact .cons (dp_of h q) (dps_of r q2)
end
end
/-- the data of a value or of a thing of the store -/
def dataOf (st : Store) (x : AV) : Option PyData := (view false st x).bind toD
def fEq (neg : Bool) : AV → AV → Store → Res AV := fun x y st => match dataOf st x, dataOf st y with
  | some d, some e => bif SeqAt.shaped d && SeqAt.shaped e then .ok (.v (.bl (bif neg then !PyData.eqv d e else PyData.eqv d e)) false) st else .bad
  | _, _ => .bad
section
variable {X : Cx} {c : Ct} {W : WX} {F : Fix} {m : Nat → Addr} {H : Hp} {S : Slots} {σ : St} {st : Store}
theorem dataOf_ok (R : Rel F m st S σ H) {x : AV} {v : V} {d : PyData} (h : AVal0 F m st.length H x v) (e : dataOf st x = some d) : Dp F.c.K H v d := by
  unfold dataOf at e
  cases q : view false st x with
  | none => rw [q] at e; cases e
  | some p =>
    rw [q] at e
    exact dp_of (viewN_ok R (L := fun _ _ => True) (fun _ _ _ _ => trivial) (fun _ _ => trivial) 12 x v p h q) e
theorem r2_eq : R2ok c (rEqD c.K) (fEq false) := by
  intro W F m st S σ H x y v w Q hc R rx ry P
  unfold fEq at P
  cases e1 : dataOf st x with
  | none => rw [e1] at P; exact P.elim
  | some d =>
    cases e2 : dataOf st y with
    | none => rw [e1, e2] at P; exact P.elim
    | some e =>
      rw [e1, e2] at P
      simp only at P
      cases q : SeqAt.shaped d && SeqAt.shaped e with
      | false => rw [q] at P; exact P.elim
      | true =>
        rw [q] at P
        rw [Bool.and_eq_true] at q
        exact ⟨d, e, hc ▸ dataOf_ok R rx.zero e1, hc ▸ dataOf_ok R ry.zero e2, q.1, q.2, PostE.here P R (.v (.bl _) fun e => nomatch e)⟩
theorem r2_ne : R2ok c (rNeD c.K) (fEq true) := by
  intro W F m st S σ H x y v w Q hc R rx ry P
  unfold fEq at P
  cases e1 : dataOf st x with
  | none => rw [e1] at P; exact P.elim
  | some d =>
    cases e2 : dataOf st y with
    | none => rw [e1, e2] at P; exact P.elim
    | some e =>
      rw [e1, e2] at P
      simp only at P
      cases q : SeqAt.shaped d && SeqAt.shaped e with
      | false => rw [q] at P; exact P.elim
      | true =>
        rw [q] at P
        rw [Bool.and_eq_true] at q
        exact ⟨d, e, hc ▸ dataOf_ok R rx.zero e1, hc ▸ dataOf_ok R ry.zero e2, q.1, q.2, PostE.here P R (.v (.bl _) fun e => nomatch e)⟩
/-- x in a list or tuple of flat things; in a list of data of any depth -/
def fIn (neg : Bool) : AV → AV → Store → Res AV := fun x y st => match dataOf st x, dataOf st y with
  | some d, some (.list ds) => bif SeqAt.shaped d && SeqAt.shaped (.list ds) then .ok (.v (.bl (bif neg then !ds.any (fun z => PyData.eqv z d) else ds.any fun z => PyData.eqv z d)) false) st else .bad
  | _, _ => .bad
theorem r2_in : R2ok c (rInD c.K) (fIn false) := by
  intro W F m st S σ H x y v w Q hc R rx ry P
  unfold fIn at P
  cases e1 : dataOf st x with
  | none => rw [e1] at P; exact P.elim
  | some d =>
    cases e2 : dataOf st y with
    | none => rw [e1, e2] at P; exact P.elim
    | some e =>
      cases e with
      | list ds =>
        rw [e1, e2] at P
        simp only at P
        cases q : SeqAt.shaped d && SeqAt.shaped (.list ds) with
        | false => rw [q] at P; exact P.elim
        | true =>
          rw [q] at P
          rw [Bool.and_eq_true] at q
          exact ⟨d, ds, hc ▸ dataOf_ok R rx.zero e1, hc ▸ dataOf_ok R ry.zero e2, q.1, q.2, PostE.here P R (.v (.bl _) fun e => nomatch e)⟩
      | _ => rw [e1, e2] at P; exact P.elim
theorem r2_notin : R2ok c (rNotInD c.K) (fIn true) := by
  intro W F m st S σ H x y v w Q hc R rx ry P
  unfold fIn at P
  cases e1 : dataOf st x with
  | none => rw [e1] at P; exact P.elim
  | some d =>
    cases e2 : dataOf st y with
    | none => rw [e1, e2] at P; exact P.elim
    | some e =>
      cases e with
      | list ds =>
        rw [e1, e2] at P
        simp only at P
        cases q : SeqAt.shaped d && SeqAt.shaped (.list ds) with
        | false => rw [q] at P; exact P.elim
        | true =>
          rw [q] at P
          rw [Bool.and_eq_true] at q
          exact ⟨d, ds, hc ▸ dataOf_ok R rx.zero e1, hc ▸ dataOf_ok R ry.zero e2, q.1, q.2, PostE.here P R (.v (.bl _) fun e => nomatch e)⟩
      | _ => rw [e1, e2] at P; exact P.elim
/-- is None -/
def isNon : AV → Bool
  | .v .non _ => true
  | _ => false
theorem isNon_ok {x : AV} {v : V} {N : Nat} (h : AVal F m N H x v) : decide (v = .non) = isNon x := by
  cases h with
  | v h _ => cases h <;> simp [isNon]
  | ref h => simp [isNon]
def fIsN (neg : Bool) : AV → AV → Store → Res AV := fun x y st => match y with
  | .v .non _ => .ok (.v (.bl (bif neg then !isNon x else isNon x)) false) st
  | _ => .bad
theorem r2_isN : R2ok c (fun x y H Q => y = .non ∧ Q (.bl (decide (x = .non))) H) (fIsN false) := by
  intro W F m st S σ H x y v w Q hc R rx ry P
  unfold fIsN at P
  split at P
  · exact ⟨isN ry, by rw [isNon_ok rx]; exact PostE.here P R (.v (.bl _) fun e => nomatch e)⟩
  · exact P.elim
theorem r2_notN : R2ok c (fun x y H Q => y = .non ∧ Q (.bl (!decide (x = .non))) H) (fIsN true) := by
  intro W F m st S σ H x y v w Q hc R rx ry P
  unfold fIsN at P
  split at P
  · exact ⟨isN ry, by rw [isNon_ok rx]; exact PostE.here P R (.v (.bl _) fun e => nomatch e)⟩
  · exact P.elim
end
/-! ### a < b < c -/
section
variable {X : Cx} {c : Ct} {W : WX} {a b e : Expr} {da db de : DE} {pos : Pos} {r r' : R2} {f f' : AV → AV → Store → Res AV}
def dChain (f f' : AV → AV → Store → Res AV) (da db de : DE) : DE := fun S st => (da S st).then fun x st1 => (db S st1).then fun y st2 => (f x y st2).then fun z st3 => match z with
  | .v (.bl k) _ => bif k then (de S st3).then fun u st4 => f' y u st4 else .ok (.v (.bl false) false) st3
  | _ => .bad
theorem chain_ok (hf : R2ok c r f) (hf' : R2ok c r' f') {σ : St} {H : Hp} {Q : VK} : tG rV c W (dChain f f' da db de) σ H Q → tChain r r' (tG rV c W da) (tG rV c W db) (tG rV c W de) σ H Q := fun ⟨F, m, s, S, hc, R, P⟩ =>
  ⟨F, m, s, S, hc, R, (PostE.bind P).imp fun v H1 ⟨m1, s1, x, _, a1, R1, r1, P1⟩ =>
    ⟨F, m1, s1, S, hc, R1, (PostE.bind P1).imp fun w H2 ⟨m2, s2, y, _, a2, R2, r2, P2⟩ =>
      hf W F m2 s2 S σ H2 x y v w _ hc R2 (AVal.step a2 r1) r2 ((PostE.bind P2).imp fun z H3 ⟨m3, s3, zv, _, a3, R3, r3, P3⟩ => by
        cases zv with
        | v p fr =>
          cases p with
          | bl k =>
            refine ⟨k, isB r3, ?_⟩
            cases k with
            | true => exact ⟨F, m3, s3, S, hc, R3, (PostE.bind P3).imp fun u H4 ⟨m4, s4, uv, _, a4, R4, r4, P4⟩ => hf' W F m4 s4 S σ H4 y uv w u Q hc R4 (AVal.step a4 (AVal.step a3 r2)) r4 P4⟩
            | false => exact PostE.here P3 R3 (.v (.bl _) fun e => nomatch e)
          | _ => exact P3.elim
        | ref n => exact P3.elim)⟩⟩
theorem pea_chain {op op' : CmpOp} (ho : OpR X (compareOp op) r) (ho' : OpR X (compareOp op') r') (hf : R2ok c r f) (hf' : R2ok c r' f') (ha : PEA X c W a da) (hb : PEA X c W b db) (hc : PEA X c W e de)
    (hm : lastMarks [op, op'] [b, e] = false := by with_unfolding_all rfl) : PEA X c W (.Compare a [op, op'] [b, e] pos) (dChain f f' da db de) := (pe_chain ho ho' ha hb hc hm).imp fun _ _ _ => chain_ok hf hf'
theorem pta_chain {op op' : CmpOp} (ho : OpR X (compareOp op) r) (ho' : OpR X (compareOp op') r') (hf : R2ok c r f) (hf' : R2ok c r' f') (ha : PEA X c W a da) (hb : PEA X c W b db) (hc : PEA X c W e de)
    (hm : lastMarks [op, op'] [b, e] = false := by with_unfolding_all rfl) : PTA X c W (.Compare a [op, op'] [b, e] pos) (dB (dChain f f' da db de)) := (pt_chain ho ho' ha hb hc hm).imp fun σ H Q h => chain_ok hf hf' (dB_ok h)
end

/-! ### slices -/
section
variable {X : Cx} {c : Ct} {W : WX} {e : Expr} {de dl du : DE} {lo hi : Option Expr} {pos p2 : Pos}
abbrev DO := Slots → Store → Res (Option Int)
abbrev rO : VRel (Option Int) (Option Int) := fun _ _ _ _ a b => a = b
def dPart (de : DE) : DO := fun S st => (de S st).then fun x st1 => match x with
  | .v (.int i) _ => .ok (some i) st1
  | _ => .bad
def dNoPart : DO := fun _ st => .ok none st
abbrev POA (X : Cx) (c : Ct) (W : WX) (e : Option Expr) (d : DO) : Prop := PO X e (tG rO c W d)
theorem _root_.L2.PO.imp {X : Cx} {e : Option Expr} {t t' : TO} (h : PO X e t) (f : ∀ σ H Q, t' σ H Q → t σ H Q) : PO X e t' := ⟨fun pins s σ H Q I hw => h.run pins s σ H Q I (f σ H Q hw)⟩
theorem poa_none : POA X c W none dNoPart := po_none.imp fun σ H Q ⟨F, m, s, S, hc, R, P⟩ => PostE.here P R rfl
theorem poa_some (h : PEA X c W e de) : POA X c W (some e) (dPart de) := (po_some h).imp fun σ H Q ⟨F, m, s, S, hc, R, P⟩ =>
  ⟨F, m, s, S, hc, R, (PostE.bind P).imp fun v H1 ⟨m1, s1, x, _, a1, R1, r1, P1⟩ => by
    cases x with
    | v p fr =>
      cases p with
      | int i => exact ⟨i, isI r1, PostE.here P1 R1 rfl⟩
      | _ => exact P1.elim
    | ref n => exact P1.elim⟩
/-- the items from lo to hi -/
def cut {α : Type} (xs : List α) (lo hi : Option Int) : List α := (xs.drop (HT.sIx xs.length 0 lo)).take (HT.sIx xs.length xs.length hi - HT.sIx xs.length 0 lo)
def isWhole (n : Nat) (lo hi : Option Int) : Bool := Nat.beq (HT.sIx n 0 lo) 0 && Nat.beq (HT.sIx n n hi) n
def fSlice (r : Bool) : AV → Option Int → Option Int → Store → Res AV := fun x lo hi st => match x with
  | .v (.tup xs) _ => bif isWhole xs.length lo hi then .bad else .ok (.v (.tup (cut xs lo hi)) false) st
  | .v (.scr ns) _ => newL r ((cut ns lo hi).map fun i => .v (.int i) false) st
  | .v (.str z) _ => bif Nat.ble z.length 1000000 then .ok (.v (.str (cutS z lo hi)) false) st else .bad
  | _ => match listOf st x with
    | some xs => newL r (cut xs lo hi) st
    | none => .bad
abbrev rSlA (K : PySem.W.Frag) : V → Option Int → Option Int → Hp → VK → Prop := fun x lo hi H Q => rSlT K x lo hi H Q ∨ (fun x lo hi H Q => rSlL K x lo hi H Q ∨ rSlS x lo hi H Q) x lo hi H Q
theorem Vls.cut {c : Ct} {L : Bool → Addr → Prop} {H : Hp} {ps : List PV} {vs : List V} (h : Vls c L H ps vs) (lo hi : Option Int) : Vls c L H (A.cut ps lo hi) (cutV vs lo hi) := by
  unfold A.cut cutV
  rw [← Vls.length h]
  exact Vls.take _ (Vls.drop _ h)
theorem pairedDrop {α β : Type} {P : α → β → Prop} : ∀ {xs : List α} {ys : List β} (n : Nat), Paired P xs ys → Paired P (xs.drop n) (ys.drop n)
  | _, _, 0, h => h
  | _, _, _ + 1, .nil => .nil
  | _, _, n + 1, .cons _ r => pairedDrop n r
theorem pairedTake {α β : Type} {P : α → β → Prop} : ∀ {xs : List α} {ys : List β} (n : Nat), Paired P xs ys → Paired P (xs.take n) (ys.take n)
  | _, _, 0, h => .nil
  | _, _, _ + 1, .nil => .nil
  | _, _, n + 1, .cons h r => .cons h (pairedTake n r)
theorem AVls0.cut {F : Fix} {m : Nat → Addr} {N : Nat} {H : Hp} {xs : List AV} {vs : List V} (h : AVls0 F m N H xs vs) (lo hi : Option Int) : AVls0 F m N H (A.cut xs lo hi) (cutV vs lo hi) := by
  unfold A.cut cutV
  rw [← Paired.length h]
  exact pairedTake _ (pairedDrop _ h)
theorem slice_ok {r : Bool} {F : Fix} {m : Nat → Addr} {H : Hp} {S : Slots} {σ : St} {st : Store} {Q : VK} {x : AV} {v : V} {lo hi : Option Int} (hc : F.c = c) (R : Rel F m st S σ H) (rx : AVal F m st.length H x v)
    (P : PostE rV W F m st.length H S σ (fSlice r x lo hi st) Q) : rSlA c.K v lo hi H Q := by
  have lists : (PostE rV W F m st.length H S σ (match listOf st x with
    | some xs => newL r (cut xs lo hi) st
    | none => .bad) Q) → rSlA c.K v lo hi H Q := by
    intro P
    cases e : listOf st x with
    | none => rw [e] at P; exact P.elim
    | some xs =>
      rw [e] at P
      obtain ⟨a, vs, rfl, h1, r1⟩ := listOf_ok R rx e
      exact .inr (.inl ⟨a, vs, rfl, SqL.of h1, fun p hp => newL_ok R hp (AVls0.cut r1 lo hi) P⟩)
  unfold fSlice at P
  split at P
  · obtain ⟨a, vs, rfl, h1, r1⟩ := tup_ok rx
    rename_i xs _
    cases q : isWhole xs.length lo hi with
    | true => rw [q] at P; exact P.elim
    | false =>
      rw [q] at P
      rw [hc] at h1
      refine .inl ⟨a, vs, rfl, h1, fun z => ?_, fun p hp => newT_ok R hp (Vls.cut r1 lo hi) P⟩
      rw [← Vls.length r1] at z
      unfold isWhole at q
      rw [z.1, z.2] at q
      simp [Nat.beq_refl] at q
  · obtain ⟨a, rfl, h1⟩ := scr_ok rx
    rename_i ns _
    rw [hc] at h1
    refine .inr (.inl ⟨a, _, rfl, h1, fun p hp => ?_⟩)
    have e : cutV (ns.map V.int) lo hi = (cut ns lo hi).map V.int := by
      unfold cutV cut
      rw [List.length_map, ← List.map_drop, ← List.map_take]
    rw [e]
    refine newL_ok R hp ?_ P
    generalize cut ns lo hi = zs
    induction zs with
    | nil => exact .nil
    | cons z zs ih => exact .cons (.v (.int z)) ih
  · rename_i z _
    cases q : Nat.ble z.length 1000000 with
    | false => rw [q] at P; exact P.elim
    | true =>
      rw [q] at P
      exact .inr (.inr ⟨z, isS rx, le_line q, PostE.here P R (.v (.str _) fun e => nomatch e)⟩)
  · exact lists P
def dSlice (r : Bool) (de : DE) (dl du : DO) : DE := fun S st => (de S st).then fun x st1 => (dl S st1).then fun l st2 => (du S st2).then fun u st3 => fSlice r x l u st3
theorem pea_slice (r : Bool) {dl du : DO} (hK : c.K = X.K := by rfl) (he : PEA X c W e de) (hl : POA X c W lo dl) (hu : POA X c W hi du) : PEA X c W (.Subscript e (.Slice lo hi none p2) pos) (dSlice r de dl du) :=
  (pe_slice (r := rSlA c.K) (by rw [hK]; exact SlR.or sl_tup (SlR.or sl_list sl_str)) he hl hu).imp fun σ H Q ⟨F, m, s, S, hc, R, P⟩ =>
    ⟨F, m, s, S, hc, R, (PostE.bind P).imp fun v H1 ⟨m1, s1, x, _, a1, R1, r1, P1⟩ =>
      ⟨F, m1, s1, S, hc, R1, (PostE.bind P1).imp fun l H2 ⟨m2, s2, l', _, a2, R2, r2, P2⟩ =>
        ⟨F, m2, s2, S, hc, R2, (PostE.bind P2).imp fun u H3 ⟨m3, s3, u', _, a3, R3, r3, P3⟩ => by
          have r2 : l' = l := r2
          have r3 : u' = u := r3
          subst r2 r3
          exact slice_ok hc R3 (AVal.step a3 (AVal.step a2 r1)) P3⟩⟩⟩
end

/-! ### built-ins -/
section
variable {X : Cx} {c : Ct} {W : WX}
def fAbs : List AV → Store → Res AV := fun xs st => match xs with
  | [.v (.int i) _] => .ok (.v (.int (if i < 0 then -i else i)) false) st
  | _ => .bad
abbrev rAbs : List V → Hp → VK → Prop := fun xs H Q => ∃ i, xs = [.int i] ∧ Q (.int (if i < 0 then -i else i)) H
theorem cr_abs : CRok c rAbs fAbs := by
  intro W F m st S σ H xs vs Q hc R rx P
  unfold fAbs at P
  split at P
  · cases rx with
    | cons a r =>
      cases r
      exact ⟨_, by rw [isI a], PostE.here P R (.v (.int _) fun e => nomatch e)⟩
  · exact P.elim
def lenOf (st : Store) : AV → Option Nat
  | .v (.tup xs) _ => some xs.length
  | .v (.lst _ xs) _ => some xs.length
  | .v (.scr ns) _ => some ns.length
  | .v (.str z) _ => bif Nat.ble z.length 1000000 then some z.length else none
  | .ref n => match st[n]? with
    | some (.lst xs) => some xs.length
    | some (.dK kvs) => some kvs.length
    | _ => none
  | _ => none
def fLen : List AV → Store → Res AV := fun xs st => match xs with
  | [x] => match lenOf st x with
    | some n => .ok (.v (.int n) false) st
    | none => .bad
  | _ => .bad
abbrev rLenA (K : PySem.W.Frag) : List V → Hp → VK → Prop := fun xs H Q => (∃ p ys, xs = [.ref p] ∧ (SqL K H p ys ∨ SqT K H p ys) ∧ Q (.int ys.length) H) ∨
  (fun xs H Q => (∃ z, xs = [V.str z] ∧ z.length ≤ sizeLine ∧ Q (.int z.length) H) ∨ (∃ a kvs, xs = [.ref a] ∧ H a = some (.dK kvs) ∧ Q (.int kvs.length) H)) xs H Q
theorem cr_lenA : CRok c (rLenA c.K) fLen := by
  intro W F m st S σ H xs vs Q hc R rx P
  unfold fLen at P
  split at P
  · cases rx with
    | cons a r =>
      cases r
      rename_i x v
      cases e : lenOf st x with
      | none => rw [e] at P; exact P.elim
      | some n =>
        rw [e] at P
        have q : Q (.int n) H := PostE.here P R (.v (.int _) fun e => nomatch e)
        clear P
        unfold lenOf at e
        split at e
        · obtain ⟨b, vs, rfl, h1, r1⟩ := tup_ok a
          cases e
          rw [hc] at h1
          exact .inl ⟨b, vs, rfl, .inr h1, by rw [← Vls.length r1]; exact q⟩
        · cases a with
          | v h _ =>
            cases h with
            | lst h l r1 => cases e; exact .inl ⟨_, _, rfl, .inl (SqL.of h), by rw [← Vls.length r1]; exact q⟩
        · obtain ⟨b, rfl, h1⟩ := scr_ok a
          cases e
          rw [hc] at h1
          exact .inl ⟨b, _, rfl, .inl h1, by rw [List.length_map]; exact q⟩
        · rename_i z _
          cases k : Nat.ble z.length 1000000 with
          | false => rw [k] at e; cases e
          | true =>
            rw [k] at e
            cases e
            exact .inr (.inl ⟨z, by rw [isS a], le_line k, q⟩)
        · rename_i k
          cases a with
          | ref hn =>
            cases e2 : st[k]? with
            | none => rw [e2] at e; cases e
            | some o =>
              rw [e2] at e
              obtain ⟨u, h1, h2⟩ := R.sto k o e2
              cases h2 with
              | lst r1 => cases e; exact .inl ⟨_, _, rfl, .inl (SqL.of h1), by rw [← Paired.length r1]; exact q⟩
              | dK r1 => cases e; exact .inr (.inr ⟨_, _, rfl, h1, by rw [← Paired.length r1]; exact q⟩)
              | _ => cases e
        · cases e
  · exact P.elim
theorem call_lenA : CallR X (.builtin "len") (rLenA X.K) := CallR.or call_len_seq (CallR.or call_len_str fun pins s σ H xs us Q I r ⟨a, kvs, e, h, q⟩ => by
  subst e
  have e2 : us = [Value.ref a] := by
    cases r with
    | cons r rr => cases rr; cases r; rfl
  subst e2
  exact d_len I (.inl h) fun t s' I' => ⟨.int kvs.length, H, I', ⟨t, rfl⟩, q⟩)
def fInt : List AV → Store → Res AV := fun xs st => match xs with
  | [.v (.int i) _] => .ok (.v (.int i) false) st
  | [.v (.bl k) _] => .ok (.v (.int (if k then 1 else 0)) false) st
  | _ => .bad
abbrev rInt1 : List V → Hp → VK → Prop := fun xs H Q => (∃ i, xs = [.int i] ∧ Q (.int i) H) ∨ ∃ k, xs = [.bl k] ∧ Q (.int (if k then 1 else 0)) H
theorem cr_int : CRok c rInt1 fInt := by
  intro W F m st S σ H xs vs Q hc R rx P
  unfold fInt at P
  split at P
  · cases rx with
    | cons a r =>
      cases r
      exact .inl ⟨_, by rw [isI a], PostE.here P R (.v (.int _) fun e => nomatch e)⟩
  · cases rx with
    | cons a r =>
      cases r
      exact .inr ⟨_, by rw [isB a], PostE.here P R (.v (.int _) fun e => nomatch e)⟩
  · exact P.elim
def fMax2 : List AV → Store → Res AV := fun xs st => match xs with
  | [.v (.int i) _, .v (.int j) _] => .ok (.v (.int (if j > i then j else i)) false) st
  | _ => .bad
def fMin2 : List AV → Store → Res AV := fun xs st => match xs with
  | [.v (.int i) _, .v (.int j) _] => .ok (.v (.int (if j < i then j else i)) false) st
  | _ => .bad
theorem cr_max2A : CRok c (fun xs H Q => ∃ i j, xs = [.int i, .int j] ∧ Q (.int (if j > i then j else i)) H) fMax2 := by
  intro W F m st S σ H xs vs Q hc R rx P
  unfold fMax2 at P
  split at P
  · cases rx with
    | cons a r =>
      cases r with
      | cons b r =>
        cases r
        exact ⟨_, _, by rw [isI a, isI b], PostE.here P R (.v (.int _) fun e => nomatch e)⟩
  · exact P.elim
theorem cr_min2A : CRok c (fun xs H Q => ∃ i j, xs = [.int i, .int j] ∧ Q (.int (if j < i then j else i)) H) fMin2 := by
  intro W F m st S σ H xs vs Q hc R rx P
  unfold fMin2 at P
  split at P
  · cases rx with
    | cons a r =>
      cases r with
      | cons b r =>
        cases r
        exact ⟨_, _, by rw [isI a, isI b], PostE.here P R (.v (.int _) fun e => nomatch e)⟩
  · exact P.elim
/-- the ints of a list -/
def toInts : List AV → Option (List Int)
  | [] => some []
  | .v (.int i) _ :: r => (toInts r).map (i :: ·)
  | _ :: _ => none
theorem toInts_ok {F : Fix} {m : Nat → Addr} {N : Nat} {H : Hp} : ∀ {xs : List AV} {vs : List V} {ns : List Int}, AVls0 F m N H xs vs → toInts xs = some ns → vs = ns.map V.int
  | _, _, ns, .nil, e => by cases e; rfl
  | x :: xs, v :: vs, ns, .cons a r, e => by
    cases x with
    | ref n => cases e
    | v p fr =>
      cases p with
      | int i =>
        have e : (toInts xs).map (i :: ·) = some ns := e
        cases q : toInts xs with
        | none => rw [q] at e; cases e
        | some ms =>
          rw [q] at e
          cases e
          rw [toInts_ok r q]
          cases a with
          | v h => rw [Val.int_inv h]; rfl
      | _ => cases e
/-- the ints of a list argument -/
def intsOf (st : Store) (x : AV) : Option (List Int) := match x with
  | .v (.scr ns) _ => some ns
  | _ => (listOf st x).bind toInts
theorem intsOf_ok {F : Fix} {m : Nat → Addr} {H : Hp} {S : Slots} {σ : St} {st : Store} (R : Rel F m st S σ H) {x : AV} {v : V} {ns : List Int} (h : AVal F m st.length H x v) (e : intsOf st x = some ns) : ∃ a, v = .ref a ∧ SqL F.c.K H a (ns.map V.int) := by
  have go : (listOf st x).bind toInts = some ns → ∃ a, v = .ref a ∧ SqL F.c.K H a (ns.map V.int) := fun e => by
    cases q : listOf st x with
    | none => rw [q] at e; cases e
    | some xs =>
      rw [q] at e
      obtain ⟨a, vs, rfl, h1, r1⟩ := listOf_ok R h q
      have := toInts_ok r1 e
      subst this
      exact ⟨a, rfl, SqL.of h1⟩
  unfold intsOf at e
  split at e
  · cases e
    exact scr_ok h
  · exact go e
def fSum : List AV → Store → Res AV := fun xs st => match xs with
  | [x] => match intsOf st x with
    | some ns => .ok (.v (.int ns.sum) false) st
    | none => .bad
  | _ => .bad
theorem cr_sumA : CRok c (rSum c.K) fSum := by
  intro W F m st S σ H xs vs Q hc R rx P
  unfold fSum at P
  split at P
  · cases rx with
    | cons a r =>
      cases r
      rename_i x v
      cases e : intsOf st x with
      | none => rw [e] at P; exact P.elim
      | some ns =>
        rw [e] at P
        obtain ⟨p, rfl, h⟩ := intsOf_ok R a e
        rw [hc] at h
        exact ⟨p, ns, rfl, h, PostE.here P R (.v (.int _) fun e => nomatch e)⟩
  · exact P.elim
def maxL : List Int → Int
  | [] => 0
  | x :: xs => xs.foldl max x
def minL : List Int → Int
  | [] => 0
  | x :: xs => xs.foldl min x
theorem foldl_max_ge (xs : List Int) : ∀ x : Int, x ≤ xs.foldl max x ∧ (∀ y ∈ xs, y ≤ xs.foldl max x) ∧ (xs.foldl max x = x ∨ xs.foldl max x ∈ xs) := by
  induction xs with
  | nil => intro x; exact ⟨Int.le_refl _, fun y h => by simp at h, .inl rfl⟩
  | cons z zs ih =>
    intro x
    obtain ⟨h1, h2, h3⟩ := ih (max x z)
    refine ⟨by simp only [List.foldl_cons]; omega, fun y hy => ?_, ?_⟩
    · rcases List.mem_cons.mp hy with rfl | hy
      · simp only [List.foldl_cons]; omega
      · exact h2 y hy
    · simp only [List.foldl_cons]
      rcases h3 with h3 | h3
      · rw [h3]
        by_cases q : x ≤ z
        · exact .inr (by rw [Int.max_eq_right q]; exact List.mem_cons_self)
        · exact .inl (Int.max_eq_left (by omega))
      · exact .inr (List.mem_cons_of_mem _ h3)
theorem foldl_min_le (xs : List Int) : ∀ x : Int, xs.foldl min x ≤ x ∧ (∀ y ∈ xs, xs.foldl min x ≤ y) ∧ (xs.foldl min x = x ∨ xs.foldl min x ∈ xs) := by
  induction xs with
  | nil => intro x; exact ⟨Int.le_refl _, fun y h => by simp at h, .inl rfl⟩
  | cons z zs ih =>
    intro x
    obtain ⟨h1, h2, h3⟩ := ih (min x z)
    refine ⟨by simp only [List.foldl_cons]; omega, fun y hy => ?_, ?_⟩
    · rcases List.mem_cons.mp hy with rfl | hy
      · simp only [List.foldl_cons]; omega
      · exact h2 y hy
    · simp only [List.foldl_cons]
      rcases h3 with h3 | h3
      · rw [h3]
        by_cases q : z ≤ x
        · exact .inr (by rw [Int.min_eq_right q]; exact List.mem_cons_self)
        · exact .inl (Int.min_eq_left (by omega))
      · exact .inr (List.mem_cons_of_mem _ h3)
theorem maxL_uniq {ns : List Int} {m : Int} (h : m ∈ ns) (hm : ∀ y ∈ ns, y ≤ m) : m = maxL ns := by
  cases ns with
  | nil => simp at h
  | cons x xs =>
    obtain ⟨h1, h2, h3⟩ := foldl_max_ge xs x
    have a : m ≤ maxL (x :: xs) := by
      rcases List.mem_cons.mp h with rfl | h
      · exact h1
      · exact h2 m h
    have b : maxL (x :: xs) ≤ m := by
      rcases h3 with h3 | h3
      · have := hm x List.mem_cons_self
        have e : maxL (x :: xs) = x := h3
        omega
      · exact hm _ (List.mem_cons_of_mem _ h3)
    omega
theorem minL_uniq {ns : List Int} {m : Int} (h : m ∈ ns) (hm : ∀ y ∈ ns, m ≤ y) : m = minL ns := by
  cases ns with
  | nil => simp at h
  | cons x xs =>
    obtain ⟨h1, h2, h3⟩ := foldl_min_le xs x
    have a : minL (x :: xs) ≤ m := by
      rcases List.mem_cons.mp h with rfl | h
      · exact h1
      · exact h2 m h
    have b : m ≤ minL (x :: xs) := by
      rcases h3 with h3 | h3
      · have := hm x List.mem_cons_self
        have e : minL (x :: xs) = x := h3
        omega
      · exact hm _ (List.mem_cons_of_mem _ h3)
    omega
def fMaxL : List AV → Store → Res AV := fun xs st => match xs with
  | [x] => match intsOf st x with
    | some (n :: ns) => .ok (.v (.int (maxL (n :: ns))) false) st
    | _ => .bad
  | _ => .bad
def fMinL : List AV → Store → Res AV := fun xs st => match xs with
  | [x] => match intsOf st x with
    | some (n :: ns) => .ok (.v (.int (minL (n :: ns))) false) st
    | _ => .bad
  | _ => .bad
theorem cr_maxA : CRok c (rMax c.K) fMaxL := by
  intro W F m st S σ H xs vs Q hc R rx P
  unfold fMaxL at P
  split at P
  · cases rx with
    | cons a r =>
      cases r
      rename_i x v
      split at P
      · rename_i n ns e
        obtain ⟨p, rfl, h⟩ := intsOf_ok R a e
        rw [hc] at h
        exact ⟨p, n :: ns, rfl, h, Nat.zero_lt_succ _, fun k hk hm => by rw [maxL_uniq hk hm]; exact PostE.here P R (.v (.int _) fun e => nomatch e)⟩
      · exact P.elim
  · exact P.elim
theorem cr_minA : CRok c (rMin c.K) fMinL := by
  intro W F m st S σ H xs vs Q hc R rx P
  unfold fMinL at P
  split at P
  · cases rx with
    | cons a r =>
      cases r
      rename_i x v
      split at P
      · rename_i n ns e
        obtain ⟨p, rfl, h⟩ := intsOf_ok R a e
        rw [hc] at h
        exact ⟨p, n :: ns, rfl, h, Nat.zero_lt_succ _, fun k hk hm => by rw [minL_uniq hk hm]; exact PostE.here P R (.v (.int _) fun e => nomatch e)⟩
      · exact P.elim
  · exact P.elim
/-- list(x), tuple(x) -/
def fList (r : Bool) : List AV → Store → Res AV := fun xs st => match xs with
  | [.v (.tup ps) _] => newL r (ps.map (AV.v · false)) st
  | [.v (.scr ns) _] => newL r (ns.map fun i => .v (.int i) false) st
  | [x] => match listOf st x with
    | some ys => newL r ys st
    | none => .bad
  | _ => .bad
theorem ints_avls {F : Fix} {m : Nat → Addr} {N : Nat} {H : Hp} : ∀ ns : List Int, AVls0 F m N H (ns.map fun i => .v (.int i) false) (ns.map V.int)
  | [] => .nil
  | n :: ns => .cons (.v (.int n)) (ints_avls ns)
theorem cr_listA (r : Bool) : CRok c (fun xs H Q => ∃ p ys, xs = [.ref p] ∧ (SqL c.K H p ys ∨ SqT c.K H p ys) ∧ ∀ l, H l = none → Q (.ref l) (upd H l (.lst ys))) (fList r) := by
  intro W F m st S σ H xs vs Q hc R rx P
  unfold fList at P
  split at P
  · cases rx with
    | cons a t =>
      cases t
      obtain ⟨p, vs, rfl, h1, r1⟩ := tup_ok a
      rw [hc] at h1
      exact ⟨p, vs, rfl, .inr h1, fun l hl => newL_ok R hl (AVls.zero (Vls.avls r1)) P⟩
  · cases rx with
    | cons a t =>
      cases t
      obtain ⟨p, rfl, h1⟩ := scr_ok a
      rw [hc] at h1
      exact ⟨p, _, rfl, .inl h1, fun l hl => newL_ok R hl (ints_avls _) P⟩
  · cases rx with
    | cons a t =>
      cases t
      rename_i x _ _ v
      cases e : listOf st x with
      | none => rw [e] at P; exact P.elim
      | some ys =>
        rw [e] at P
        obtain ⟨p, vs, rfl, h1, r1⟩ := listOf_ok R a e
        exact ⟨p, vs, rfl, .inl (SqL.of h1), fun l hl => newL_ok R hl r1 P⟩
  · exact P.elim
def fTuple : List AV → Store → Res AV := fun xs st => match xs with
  | [.v (.tup ps) fr] => .ok (.v (.tup ps) false) st
  | [x] => match (listOf st x).bind toPs with
    | some ps => .ok (.v (.tup ps) false) st
    | none => .bad
  | _ => .bad
theorem cr_tupleA : CRok c (fun xs H Q => ∃ p ys, xs = [.ref p] ∧ ((SqL c.K H p ys ∧ ∀ l, H l = none → Q (.ref l) (upd H l (.tup ys))) ∨ (SqT c.K H p ys ∧ Q (.ref p) H))) fTuple := by
  intro W F m st S σ H xs vs Q hc R rx P
  unfold fTuple at P
  split at P
  · cases rx with
    | cons a t =>
      cases t
      obtain ⟨p, vs, rfl, h1, r1⟩ := tup_at a
      have q := PostE.here P R (.v (.tup h1 r1) fun e => nomatch e)
      exact ⟨p, vs, rfl, .inr ⟨.inl (.inl h1), q⟩⟩
  · cases rx with
    | cons a t =>
      cases t
      rename_i x _ v
      cases e : listOf st x with
      | none => rw [e] at P; exact P.elim
      | some ys =>
        rw [e] at P
        obtain ⟨p, vs, rfl, h1, r1⟩ := listOf_ok R a e
        simp only [Option.bind_some] at P
        cases e2 : toPs ys with
        | none => rw [e2] at P; exact P.elim
        | some ps =>
          rw [e2] at P
          exact ⟨p, vs, rfl, .inl ⟨SqL.of h1, fun l hl => newT_ok R hl (toPs_ok r1 e2) P⟩⟩
  · exact P.elim
end
end A

/-! The A-layer, part 6: targets, what is walked, for, comprehensions. -/
namespace A
open PySem PySem.Spec PyProof.Rows L2

/-! ### targets -/
abbrev DG := AV → Slots → Option Slots
abbrev DGs := List AV → Slots → Option Slots
/-- other slots than those at is are as they were -/
def Off (is : List Nat) (σ σ' : St) : Prop := σ'.length = σ.length ∧ ∀ i, i ∉ is → σ'[i]? = σ[i]?
def tgG (c : Ct) (is : List Nat) (d : DG) : TG := fun v σ H Q => ∃ F m st S x, F.c = c ∧ Rel F m st S σ H ∧ AVal F m st.length H x v ∧ match d x S with
  | some S' => ∀ σ', Rel F m st S' σ' H → Off is σ σ' → Q σ' H
  | none => False
def tgGs (c : Ct) (is : List Nat) (d : DGs) : TGs := fun vs σ H Q => ∃ F m st S xs, F.c = c ∧ Rel F m st S σ H ∧ AVls F m st.length H xs vs ∧ match d xs S with
  | some S' => ∀ σ', Rel F m st S' σ' H → Off is σ σ' → Q σ' H
  | none => False
abbrev PGA (X : Cx) (c : Ct) (is : List Nat) (e : Expr) (d : DG) : Prop := PG X e (tgG c is d)
abbrev PGsA (X : Cx) (c : Ct) (is : List Nat) (es : List Expr) (d : DGs) : Prop := PGs X es (tgGs c is d)
theorem _root_.L2.PG.imp {X : Cx} {e : Expr} {t t' : TG} (h : PG X e t) (f : ∀ v σ H Q, t' v σ H Q → t v σ H Q) : PG X e t' := ⟨fun pins s σ H v u Q I r hw => h.run pins s σ H v u Q I r (f v σ H Q hw)⟩
theorem _root_.L2.PGs.imp {X : Cx} {e : List Expr} {t t' : TGs} (h : PGs X e t) (f : ∀ v σ H Q, t' v σ H Q → t v σ H Q) : PGs X e t' := ⟨fun pins s σ H v u Q I r hw => h.run pins s σ H v u Q I r (f v σ H Q hw)⟩
section
variable {X : Cx} {c : Ct} {W : WX} {pos : Pos} {e : Expr} {es : List Expr}
def gN (i : Nat) : DG := fun x S => some (S.set i (some x))
theorem Off.set {σ : St} {i : Nat} {v : V} : Off [i] σ (σ.set i (some v)) := ⟨by simp, fun j h => by
  rw [List.getElem?_set_ne]
  intro z; subst z; simp at h⟩
theorem pga_name {i : Nat} {x : Str} (hN : X.N.Nodup) (hi : X.N[i]? = some x := by rfl) (hx : Loc X.env.scope x := by first | exact Or.inl rfl | exact Or.inr rfl) (hf : X.fn x = true ∨ X.env.scope.names.lookup x = some .local := by first | exact .inl rfl | exact .inr rfl) : PGA X c [i] (.Name x pos) (gN i) :=
  (pg_name hN hi hx hf).imp fun v σ H Q ⟨F, m, st, S, x, hc, R, rx, P⟩ => P _ (R.slot rx) Off.set
def gE : DGs := fun xs S => match xs with
  | [] => some S
  | _ => none
def gC (d : DG) (ds : DGs) : DGs := fun xs S => match xs with
  | x :: r => (d x S).bind fun S' => ds r S'
  | [] => none
theorem pgsa_nil : PGsA X c [] [] gE := pgs_nil.imp fun vs σ H Q ⟨F, m, st, S, xs, hc, R, rx, P⟩ => by
  cases rx with
  | nil => exact ⟨rfl, P σ R ⟨rfl, fun _ _ => rfl⟩⟩
  | cons a r => exact P.elim
theorem pgsa_cons {is js : List Nat} {d : DG} {ds : DGs} (h1 : PGA X c is e d) (h2 : PGsA X c js es ds) (hs : (assignEach (e :: es) X.env).map (·.2) = assign e X.env :: (assignEach es X.env).map (·.2) := by rfl) : PGsA X c (is ++ js) (e :: es) (gC d ds) :=
  (pgs_cons h1 h2 hs).imp fun vs σ H Q ⟨F, m, st, S, xs, hc, R, rx, P⟩ => by
    cases xs with
    | nil => exact False.elim P
    | cons x xs =>
      cases rx with
      | cons a r =>
        refine ⟨_, _, rfl, F, m, st, S, x, hc, R, a, ?_⟩
        cases q : d x S with
        | none => simp only [gC, q, Option.bind_none] at P
        | some S1 =>
          simp only [gC, q, Option.bind_some] at P
          refine fun σ1 R1 o1 => ⟨F, m, st, S1, xs, hc, R1, r, ?_⟩
          cases q2 : ds xs S1 with
          | none => rw [q2] at P; exact P.elim
          | some S2 =>
            rw [q2] at P
            exact fun σ2 R2 o2 => P σ2 R2 ⟨o2.1.trans o1.1, fun i hi => (o2.2 i fun z => hi (List.mem_append_right _ z)).trans (o1.2 i fun z => hi (List.mem_append_left _ z))⟩
/-- (a, b, ..) from a tuple -/
def gT (n : Nat) (ds : DGs) : DG := fun x S => match x with
  | .v (.tup ps) _ => bif Nat.beq ps.length n then ds (ps.map (AV.v · false)) S else none
  | _ => none
theorem pga_tup {is : List Nat} {k n : Nat} {ds : DGs} (cn : Cn X c) (h : PGsA X c is es ds) (hn : (assignEach es X.env).length = n := by rfl) (hst : (assignEach es X.env).findIdx? (·.1) = none := by rfl) : PGA X c is (.Tuple es k pos) (gT n ds) :=
  (pg_tup cn.calm h hn hst).imp fun v σ H Q ⟨F, m, st, S, x, hc, R, rx, P⟩ => by
    have bad : ∀ {o : Option Slots}, o = none → (match o with
      | some S' => ∀ σ', Rel F m st S' σ' H → Off is σ σ' → Q σ' H
      | none => False) → False := fun e h => by subst e; exact h
    cases x with
    | ref k => exact (bad rfl P).elim
    | v p fr =>
      cases p with
      | tup ps =>
        obtain ⟨a, vs, rfl, h1, r1⟩ := tup_ok rx
        rw [hc, cn.K] at h1
        cases q : Nat.beq ps.length n with
        | false => simp only [gT, q, cond_false] at P
        | true =>
          simp only [gT, q, cond_true] at P
          exact ⟨a, vs, rfl, h1, by rw [← Vls.length r1]; exact Nat.eq_of_beq_eq_true q, F, m, st, S, _, hc, R, Vls.avls r1, P⟩
      | _ => exact (bad rfl P).elim
/-- target = value -/
def dAsg (de : DE) (d : DG) : DS := fun S st => (de S st).flow S fun x st1 => match d x S with
  | some S' => .nx S' st1
  | none => .bad
theorem psa_asg {is : List Nat} {tg : Expr} {de : DE} {d : DG} (he : PEA X c W e de) (hg : PGA X c is tg d) (hs : swapsWithSole [tg] e pos.line X.env = pure false := by rfl) (hw : swappedStores [tg] e X.env = pure none := by rfl)
    (h1 : (assignEach [tg] X.env).map (·.2) = [assign tg X.env] := by rfl) : PSA X c W (.Assign [tg] e pos) (dAsg de d) := (ps_asg he hg hs hw h1).imp fun D σ H ⟨F, m, s, S, hc, R, P⟩ =>
  ⟨F, m, s, S, hc, R, (PostS.bind P).imp fun v H1 ⟨m1, s1, x, _, a1, R1, r1, P1⟩ => ⟨F, m1, s1, S, x, hc, R1, r1, by
    cases q : d x S with
    | none => rw [q] at P1; exact P1
    | some S' => rw [q] at P1; exact fun σ' R' _ => P1 m1 σ' H1 Step.refl R'⟩⟩
end

/-! ### what is walked -/
/-- J walks the items; G is what stands meanwhile -/
structure WalkA (c : Ct) (J : It) (items : List AV) (G : Fix → (Nat → Addr) → Nat → Hp → Prop) : Prop where
  stay : ∀ F m N H m' N' H', Step m N H m' N' H' → G F m N H → G F m' N' H'
  av : ∀ F m N H a, H a = none → G F m N H → G (F.av a) m N H
  over : ∀ F m N H D acc acc', F.Z D → H D = some (.lst acc) → G F m N H → G F m N (upd H D (.lst acc'))
  stop : ∀ F m st S σ H, F.c = c → Rel F m st S σ H → G F m st.length H → J.stop items.length H
  go : ∀ F m st S σ H i x, F.c = c → Rel F m st S σ H → G F m st.length H → items[i]? = some x → J.go i H
  yld : ∀ F m st S σ H i x v H', F.c = c → Rel F m st S σ H → G F m st.length H → items[i]? = some x → J.yld i H v H' → Same H H' ∧ AVal F m st.length H' x v
def PostI (c : Ct) (W : WX) (F : Fix) (m : Nat → Addr) (N : Nat) (H : Hp) (S : Slots) (σ : St) (r : Res (List AV)) (R : It → Hp → Prop) : Prop :=
  match r with
  | .ok xs st' => ∀ m' H' J G, Step m N H m' st'.length H' → Rel F m' st' S σ H' → WalkA c J xs G → G F m' st'.length H' → R J H'
  | .ex e st' => ∀ m' H' cls d, Step m N H m' st'.length H' → Rel F m' st' S σ H' → ERep F.c (Lw F m' st'.length) H' e cls d → W cls d σ H'
  | .bad => False
def tI (c : Ct) (W : WX) (d : DA) : TI := fun σ H R => ∃ F m st S, F.c = c ∧ Rel F m st S σ H ∧ PostI c W F m st.length H S σ (d S st) R
abbrev PIA (X : Cx) (c : Ct) (W : WX) (tg e : Expr) (d : DA) : Prop := PI X tg e (tI c W d)
theorem _root_.L2.PI.imp {X : Cx} {tg e : Expr} {t t' : TI} (h : PI X tg e t) (f : ∀ σ H R, t' σ H R → t σ H R) : PI X tg e t' := ⟨fun pins s σ H R I hw => h.run pins s σ H R I (f σ H R hw)⟩
theorem PostI.shift {c : Ct} {W : WX} {F : Fix} {m m1 : Nat → Addr} {N N1 : Nat} {H H1 : Hp} {S : Slots} {σ : St} {r : Res (List AV)} {R : It → Hp → Prop} (s : Step m N H m1 N1 H1) (h : PostI c W F m N H S σ r R) : PostI c W F m1 N1 H1 S σ r R := by
  cases r with
  | ok x st' => exact fun m' H' J G a => h m' H' J G (s.trans a)
  | ex e st' => exact fun m' H' cls d a b c => h m' H' cls d (s.trans a) b c
  | bad => exact h
theorem PostI.bind {α β : Type} {rel : VRel α β} {c : Ct} {W : WX} {F : Fix} {m : Nat → Addr} {N : Nat} {H : Hp} {S : Slots} {σ : St} {r : Res α} {k : α → Store → Res (List AV)} {R : It → Hp → Prop} (h : PostI c W F m N H S σ (r.then k) R) :
    PostE rel W F m N H S σ r fun v H1 => ∃ m1 st1 x, r = .ok x st1 ∧ Step m N H m1 st1.length H1 ∧ Rel F m1 st1 S σ H1 ∧ rel F m1 st1.length H1 x v ∧ PostI c W F m1 st1.length H1 S σ (k x st1) R := by
  cases r with
  | ok x st1 => exact fun m1 v H1 a b c => ⟨m1, st1, x, rfl, a, b, c, PostI.shift a h⟩
  | ex e st1 => exact h
  | bad => exact h
theorem PostI.here {c : Ct} {W : WX} {F : Fix} {m : Nat → Addr} {st : Store} {H : Hp} {S : Slots} {σ : St} {xs : List AV} {R : It → Hp → Prop} (h : PostI c W F m st.length H S σ (.ok xs st) R) (r : Rel F m st S σ H) {J : It} {G} (w : WalkA c J xs G) (g : G F m st.length H) : R J H :=
  h m H J G Step.refl r w g

/-! ### for -/
section
variable {X : Cx} {c : Ct} {W : WX} {pos : Pos}
def forL (tg : DG) (b : DS) : List AV → DS
  | [], S, st => .nx S st
  | x :: xs, S, st => match tg x S with
    | none => .bad
    | some S1 => match b S1 st with
      | .nx S' st' => forL tg b xs S' st'
      | .ct S' st' => forL tg b xs S' st'
      | .bk S' st' => .nx S' st'
      | r => r
def dFor (it : DA) (tg : DG) (b : DS) : DS := fun S st => (it S st).flow S fun xs st1 => forL tg b xs S st1
def PostIS {W : WX} {F : Fix} {m : Nat → Addr} {N : Nat} {H : Hp} {S : Slots} {σ : St} {r : Res (List AV)} {k : List AV → Store → Flow} {D : Ends} (h : PostS W F m N H (r.flow S k) D) :
    PostI c W F m N H S σ r fun J H1 => ∃ m1 st1 xs G, r = .ok xs st1 ∧ Step m N H m1 st1.length H1 ∧ Rel F m1 st1 S σ H1 ∧ WalkA c J xs G ∧ G F m1 st1.length H1 ∧ PostS W F m1 st1.length H1 (k xs st1) D := by
  cases r with
  | ok xs st1 => exact fun m1 H1 J G a b w g => ⟨m1, st1, xs, G, rfl, a, b, w, g, PostS.shift a h⟩
  | ex e st1 => exact fun m' H' cls d a b er => h m' σ H' cls d a b er
  | bad => exact h
theorem psa_for (cn : Cn X c) {is : List Nat} {tg iter : Expr} {body : List Stmt} {di : DA} {dg : DG} {db : DS} (hi : PIA X c W tg iter di) (hg : PGA X c is tg dg) (hb : PSsA X c W body db)
    (hs : ∀ x, foldedSetIterable iter X.env x = pure x := by intro _; rfl) : PSA X c W (.For tg iter body [] pos) (dFor di dg db) := (ps_for cn.pas cn.calm hi hg hb hs).imp fun D σ H ⟨F, m, s, S, hc, R, P⟩ => by
  refine ⟨F, m, s, S, hc, R, ?_⟩
  have P2 := PostIS (c := c) (σ := σ) P
  have imp : ∀ {r : Res (List AV)} {R R' : It → Hp → Prop}, PostI c W F m s.length H S σ r R → (∀ J H, R J H → R' J H) → PostI c W F m s.length H S σ r R' := fun {r R R'} h f => by
    cases r with
    | ok x st' => exact fun m' H' J G a b w g => f _ _ (h m' H' J G a b w g)
    | ex e st' => exact h
    | bad => exact h
  refine imp P2 fun J H1 ⟨m1, s1, xs, G, _, a1, R1, w, g1, P1⟩ => ?_
  refine ⟨fun i n σ H => n = xs.length - i ∧ i ≤ xs.length ∧ ∃ m st S, Rel F m st S σ H ∧ G F m st.length H ∧ PostS W F m st.length H (forL dg db (xs.drop i) S st) D, ⟨_, rfl, Nat.zero_le _, m1, s1, S, R1, g1, P1⟩, ?_⟩
  rintro i n σ2 H2 ⟨rfl, hi, m2, s2, S2, R2, g2, P2⟩
  by_cases hlt : i < xs.length
  · have ex : xs[i]? = some xs[i] := List.getElem?_eq_getElem hlt
    refine .inr ⟨w.go F m2 s2 S2 σ2 H2 i _ hc R2 g2 ex, fun σ' H' => i + 1 ≤ xs.length ∧ ∃ m st S, Rel F m st S σ' H' ∧ G F m st.length H' ∧ PostS W F m st.length H' (forL dg db (xs.drop (i + 1)) S st) D, fun σ' H' q => ⟨xs.length - (i + 1), by omega, rfl, q⟩, fun v H3 y => ?_⟩
    obtain ⟨s3, r3⟩ := w.yld F m2 s2 S2 σ2 H2 i _ v H3 hc R2 g2 ex y
    have R3 := R2.same s3
    have g3 := w.stay F m2 s2.length H2 m2 s2.length H3 (Step.of s3) g2
    have P3 := PostS.shift (Step.of (m := m2) (N := s2.length) s3) P2
    rw [List.drop_eq_getElem_cons hlt] at P3
    refine ⟨F, m2, s2, S2, xs[i], hc, R3, r3, ?_⟩
    cases q : dg xs[i] S2 with
    | none => simp only [forL, q] at P3; exact P3
    | some S4 =>
      simp only [forL, q] at P3
      refine fun σ4 R4 _ => ⟨F, m2, s2, S4, hc, R4, ?_⟩
      cases e : db S4 s2 with
      | nx S' st' => rw [e] at P3; exact fun m' σ' H' a b => ⟨hlt, m', st', S', b, w.stay _ _ _ _ _ _ _ a g3, PostS.shift a P3⟩
      | ct S' st' => rw [e] at P3; exact fun m' σ' H' a b => ⟨hlt, m', st', S', b, w.stay _ _ _ _ _ _ _ a g3, PostS.shift a P3⟩
      | bk S' st' => rw [e] at P3; exact P3
      | rt x st' => rw [e] at P3; exact P3
      | ex x S' st' => rw [e] at P3; exact P3
      | bad => rw [e] at P3; exact P3
  · have : i = xs.length := by omega
    subst this
    rw [List.drop_length] at P2
    exact .inl ⟨w.stop F m2 s2 S2 σ2 H2 hc R2 g2, P2 m2 σ2 H2 Step.refl R2⟩
end

/-! ### a range, a list, a tuple walked -/
section
variable {X : Cx} {c : Ct} {W : WX} {tg e : Expr} {es : List Expr} {de : DE} {da : DA} {p pos : Pos}
def rangeL (lo : Int) (n : Nat) : List AV := (List.range n).map fun (i : Nat) => .v (.int (lo + (i : Int))) false
theorem walk_range (lo : Int) (n : Nat) : WalkA c (Itr lo n) (rangeL lo n) fun _ _ _ _ => True where
  stay := fun _ _ _ _ _ _ _ _ _ => trivial
  av := fun _ _ _ _ _ _ _ => trivial
  over := fun _ _ _ _ _ _ _ _ _ _ => trivial
  stop := fun F m st S σ H hc R g => by show n ≤ (rangeL lo n).length; simp [rangeL]
  go := fun F m st S σ H i x hc R g e => by
    have := (List.getElem?_eq_some_iff.mp e).1
    show i < n
    simpa [rangeL] using this
  yld := fun F m st S σ H i x v H' hc R g e y => by
    obtain ⟨rfl, rfl⟩ := y
    have hi := (List.getElem?_eq_some_iff.mp e).1
    have : x = .v (.int (lo + (i : Int))) false := by
      unfold rangeL at e hi
      rw [List.getElem?_map, List.getElem?_range (by simpa using hi)] at e
      cases e; rfl
    subst this
    exact ⟨fun b o h => h, .v (.int _) fun e => nomatch e⟩
def bnd (i : Int) : Bool := decide (-(2 ^ 62) ≤ i) && decide (i < 2 ^ 62)
def asI1 : List AV → Option Int
  | [.v (.int j) _] => some j
  | _ => none
def asI2 : List AV → Option (Int × Int)
  | [.v (.int i) _, .v (.int j) _] => some (i, j)
  | _ => none
theorem asI1_ok {F : Fix} {m : Nat → Addr} {N : Nat} {H : Hp} {xs : List AV} {vs : List V} {j : Int} (h : AVls F m N H xs vs) (e : asI1 xs = some j) : vs = [.int j] := by
  unfold asI1 at e
  split at e
  · cases e
    cases h with
    | cons a t => cases t; rw [isI a]
  · cases e
theorem asI2_ok {F : Fix} {m : Nat → Addr} {N : Nat} {H : Hp} {xs : List AV} {vs : List V} {i j : Int} (h : AVls F m N H xs vs) (e : asI2 xs = some (i, j)) : vs = [.int i, .int j] := by
  unfold asI2 at e
  split at e
  · cases e
    cases h with
    | cons a t =>
      cases t with
      | cons b t => cases t; rw [isI a, isI b]
  · cases e
def dRange1 (da : DA) : DA := fun S st => (da S st).then fun xs st1 => match asI1 xs with
  | some j => bif bnd j then .ok (rangeL 0 j.toNat) st1 else .bad
  | none => .bad
def dRange2 (da : DA) : DA := fun S st => (da S st).then fun xs st1 => match asI2 xs with
  | some (i, j) => bif bnd i && bnd j then .ok (rangeL i (j - i).toNat) st1 else .bad
  | none => .bad
theorem bnd_ok {i : Int} (h : bnd i = true) : -(2 ^ 62) ≤ i ∧ i < 2 ^ 62 := by
  unfold bnd at h
  rw [Bool.and_eq_true] at h
  exact ⟨of_decide_eq_true h.1, of_decide_eq_true h.2⟩
theorem pia_range1 {a : Expr} (hm : X.mg "range" = none) (ha : PAA X c W [a] da) (hg : Gl X "range" := by rfl) (hs : starEach [a] X.env = [(false, eval a X.env)] := by rfl) : PIA X c W tg (.Call (.Name "range" p) [a] [] pos) (dRange1 da) :=
  (pi_range1 hg hm ha hs).imp fun σ H R ⟨F, m, s, S, hc, R0, P⟩ => ⟨F, m, s, S, hc, R0, (PostI.bind P).imp fun vs H1 ⟨m1, s1, xs, _, a1, R1, r1, P1⟩ => by
    cases e : asI1 xs with
    | none => rw [e] at P1; exact P1.elim
    | some j =>
      rw [e] at P1
      simp only at P1
      cases q : bnd j with
      | false => rw [q] at P1; exact P1.elim
      | true =>
        rw [q] at P1
        exact ⟨j, asI1_ok r1 e, (bnd_ok q).1, (bnd_ok q).2, PostI.here P1 R1 (walk_range 0 _) trivial⟩⟩
theorem pia_range2 {a b : Expr} (hm : X.mg "range" = none) (ha : PAA X c W [a, b] da) (hg : Gl X "range" := by rfl) (hs : starEach [a, b] X.env = [(false, eval a X.env), (false, eval b X.env)] := by rfl) (hs2 : starEach [b] X.env = [(false, eval b X.env)] := by rfl) : PIA X c W tg (.Call (.Name "range" p) [a, b] [] pos) (dRange2 da) :=
  (pi_range2 hg hm ha hs hs2).imp fun σ H R ⟨F, m, s, S, hc, R0, P⟩ => ⟨F, m, s, S, hc, R0, (PostI.bind P).imp fun vs H1 ⟨m1, s1, xs, _, a1, R1, r1, P1⟩ => by
    cases e : asI2 xs with
    | none => rw [e] at P1; exact P1.elim
    | some ij =>
      obtain ⟨i, j⟩ := ij
      rw [e] at P1
      simp only at P1
      cases q : bnd i && bnd j with
      | false => rw [q] at P1; exact P1.elim
      | true =>
        rw [q] at P1
        rw [Bool.and_eq_true] at q
        exact ⟨i, j, asI2_ok r1 e, ⟨(bnd_ok q.1).1, (bnd_ok q.1).2, (bnd_ok q.2).1, (bnd_ok q.2).2⟩, PostI.here P1 R1 (walk_range i _) trivial⟩⟩
theorem over_imm {H : Hp} {D : Addr} {acc acc' : List V} (hD : H D = some (.lst acc)) : ∀ a o, H a = some o → isMut o = false → upd H D (.lst acc') a = some o := fun a o h q => by
  rw [upd_ne (fun z => by subst z; rw [hD] at h; cases h; cases q)]; exact h
theorem over_vls {c : Ct} {F : Fix} {m : Nat → Addr} {N : Nat} {H : Hp} {D : Addr} {acc acc' : List V} {ps : List PV} {vs : List V} (hz : F.Z D) (hD : H D = some (.lst acc)) (h : Vls c (Lw F m N) H ps vs) : Vls c (Lw F m N) (upd H D (.lst acc')) ps vs :=
  Vls.mono (over_imm hD) (fun t a o l h _ => by rw [upd_ne (fun z => l.2.1 (by rw [z]; exact hz))]; exact h) (fun t a l _ => l) h
/-- the items of a value that is walked (the store's own lists are not: their loop is another) -/
def itemsV : AV → Option (List AV)
  | .v (.lst _ ps) _ => some (ps.map (AV.v · false))
  | .v (.tup ps) _ => some (ps.map (AV.v · false))
  | .v (.scr ns) _ => some (ns.map fun i => .v (.int i) false)
  | _ => none
def dItem (de : DE) : DA := fun S st => (de S st).then fun x st1 => match itemsV x with
  | some xs => .ok xs st1
  | none => .bad
theorem map_get {ps : List PV} {i : Nat} {x : AV} (e : (ps.map (AV.v · false))[i]? = some x) : ∃ p, ps[i]? = some p ∧ x = .v p false := by
  rw [List.getElem?_map] at e
  cases q : ps[i]? with
  | none => rw [q] at e; cases e
  | some p => rw [q] at e; cases e; exact ⟨p, rfl, rfl⟩
theorem walk_lst {a : Addr} {ps : List PV} {vs : List V} {t : Bool} : WalkA c (Itl c.K a) (ps.map (AV.v · false)) fun F m N H => F.c = c ∧ H a = some (.lst vs) ∧ Lw F m N t a ∧ Vls F.c (Lw F m N) H ps vs where
  stay := fun F m N H m' N' H' s ⟨h0, h1, h2, h3⟩ => ⟨h0, s.keep a _ h1 h2.2.2 rfl, Lw.step s h2 (some_ne h1), Vls.step s h3⟩
  av := fun F m N H b hb ⟨h0, h1, h2, h3⟩ => ⟨h0, h1, ⟨h2.1, ⟨fun z => Or.elim z h2.2.1 fun z => (by rw [z, hb] at h1; cases h1), h2.2.2⟩⟩, Vls.av h3 hb⟩
  over := fun F m N H D acc acc' hz hD ⟨h0, h1, h2, h3⟩ => ⟨h0, by rw [upd_ne (fun z => h2.2.1 (by rw [z]; exact hz))]; exact h1, h2, over_vls hz hD h3⟩
  stop := fun F m st S σ H hc R ⟨h0, h1, h2, h3⟩ => ⟨vs, SqL.of h1, by simp [Vls.length h3]⟩
  go := fun F m st S σ H i x hc R ⟨h0, h1, h2, h3⟩ e => by
    obtain ⟨p, e1, rfl⟩ := map_get e
    obtain ⟨v, e2, _⟩ := Vls.get h3 e1
    exact ⟨vs, v, SqL.of h1, e2⟩
  yld := fun F m st S σ H i x v H' hc R ⟨h0, h1, h2, h3⟩ e y => by
    obtain ⟨p, e1, rfl⟩ := map_get e
    obtain ⟨v', e2, h4⟩ := Vls.get h3 e1
    obtain ⟨rfl, y⟩ := y
    have := y vs (SqL.of h1)
    rw [e2] at this; cases this
    exact ⟨fun b o h => h, .v h4 fun e => nomatch e⟩
theorem walk_tup {a : Addr} {ps : List PV} {vs : List V} : WalkA c (Itt c.K a) (ps.map (AV.v · false)) fun F m N H => F.c = c ∧ SqT c.K H a vs ∧ Vls F.c (Lw F m N) H ps vs where
  stay := fun F m N H m' N' H' s ⟨h0, h1, h3⟩ => ⟨h0, sqT_imm s.imm h1, Vls.step s h3⟩
  av := fun F m N H b hb ⟨h0, h1, h3⟩ => ⟨h0, h1, Vls.av h3 hb⟩
  over := fun F m N H D acc acc' hz hD ⟨h0, h1, h3⟩ => ⟨h0, sqT_imm (over_imm hD) h1, over_vls hz hD h3⟩
  stop := fun F m st S σ H hc R ⟨h0, h1, h3⟩ => ⟨vs, h1, by simp [Vls.length h3]⟩
  go := fun F m st S σ H i x hc R ⟨h0, h1, h3⟩ e => by
    obtain ⟨p, e1, rfl⟩ := map_get e
    obtain ⟨v, e2, _⟩ := Vls.get h3 e1
    exact ⟨vs, v, h1, e2⟩
  yld := fun F m st S σ H i x v H' hc R ⟨h0, h1, h3⟩ e y => by
    obtain ⟨p, e1, rfl⟩ := map_get e
    obtain ⟨v', e2, h4⟩ := Vls.get h3 e1
    obtain ⟨rfl, y⟩ := y
    have := y vs h1
    rw [e2] at this; cases this
    exact ⟨fun b o h => h, .v h4 fun e => nomatch e⟩
/-- where the script stands -/
def ScrAt (K : PySem.W.Frag) (H : Hp) (a : Addr) (ns : List Int) : Prop := (∃ o, H a = some (.frz o (.lst (ns.map V.int)))) ∨ SqL K (fun _ => none) a (ns.map V.int)
theorem walk_scr {a : Addr} {ns : List Int} : WalkA c (Itl c.K a) (ns.map fun i => .v (.int i) false) fun F m N H => ScrAt c.K H a ns where
  stay := fun F m N H m' N' H' s h => by
    rcases h with ⟨o, h⟩ | h
    · exact .inl ⟨o, s.imm _ _ h rfl⟩
    · exact .inr h
  av := fun F m N H b hb h => h
  over := fun F m N H D acc acc' hz hD h => by
    rcases h with ⟨o, h⟩ | h
    · exact .inl ⟨o, over_imm hD _ _ h rfl⟩
    · exact .inr h
  stop := fun F m st S σ H hc R h => ⟨_, scr_sq h, by simp⟩
  go := fun F m st S σ H i x hc R h e => by
    rw [List.getElem?_map] at e
    cases q : ns[i]? with
    | none => rw [q] at e; cases e
    | some n => exact ⟨_, .int n, scr_sq h, by rw [List.getElem?_map, q]; rfl⟩
  yld := fun F m st S σ H i x v H' hc R h e y => by
    rw [List.getElem?_map] at e
    cases q : ns[i]? with
    | none => rw [q] at e; cases e
    | some n =>
      rw [q] at e; cases e
      obtain ⟨rfl, y⟩ := y
      have := y _ (scr_sq h)
      rw [List.getElem?_map, q] at this
      cases this
      exact ⟨fun b o h => h, .v (.int n) fun e => nomatch e⟩
/-- a list or a tuple -/
def iSeq (K : PySem.W.Frag) (tl : TE) : TI := fun σ H R => tl σ H fun x H1 => ∃ a, x = .ref a ∧ (((∃ xs, SqL K H1 a xs) ∧ R (Itl K a) H1) ∨ ((∃ xs, SqT K H1 a xs) ∧ R (Itt K a) H1))
theorem pi_seq {l : Expr} {tl : TE} (hl : PE X l tl) : PI X tg l (iSeq X.K tl) := by
  refine ⟨fun pins s σ H R I h => ?_⟩
  refine thn (hl.run pins s σ H _ I h) fun v s1 ⟨x, H1, I1, r1, q1⟩ => ?_
  obtain ⟨a, e, q⟩ := q1
  subst e
  cases r1
  rcases q with ⟨⟨xs, hq⟩, q⟩ | ⟨⟨xs, hq⟩, q⟩
  · obtain ⟨its, rv, p, hz⟩ := I1.list hq
    refine wpAny_pyIter_list p.isList ?_
    refine ⟨s1.heap.objs.size, [s1.heap.objs.size], _, _, H1, rfl, I1.kept (t' := s1.toks) fun b o e => Heap.get?_push_of_some _ e, turn_list a _, ⟨_, Heap.get?_push_size _ rfl, rfl, rfl⟩, fun b hb => ?_, q⟩
    have e : b = s1.heap.objs.size := by simpa using hb
    subst e
    exact I1.fpOk (Nat.le_refl _) (I1.hok.fresh (Nat.le_refl _))
  · obtain ⟨its, rv, p, hz⟩ := I1.tuple hq
    refine wpAny_pyIter_tuple (show s1.heap.IsTuple a its.toArray from p) ?_
    refine ⟨s1.heap.objs.size, [s1.heap.objs.size], _, _, H1, rfl, I1.kept (t' := s1.toks) fun b o e => Heap.get?_push_of_some _ e, turn_tuple a _, ⟨_, Heap.get?_push_size _ rfl, rfl, rfl⟩, fun b hb => ?_, q⟩
    have e : b = s1.heap.objs.size := by simpa using hb
    subst e
    exact I1.fpOk (Nat.le_refl _) (I1.hok.fresh (Nat.le_refl _))
theorem pia_seq (hK : c.K = X.K := by rfl) (he : PEA X c W e de) : PIA X c W tg e (dItem de) := (pi_seq he).imp fun σ H R ⟨F, m, s, S, hc, R0, P⟩ => by
  rw [← hK]
  refine ⟨F, m, s, S, hc, R0, (PostI.bind P).imp fun v H1 ⟨m1, s1, x, _, a1, R1, r1, P1⟩ => ?_⟩
  cases x with
  | ref n => exact P1.elim
  | v p fr =>
    cases r1 with
    | v h f =>
      cases h with
      | tup h r =>
        have h : SqT c.K H1 _ _ := .inl (.inl h)
        exact ⟨_, rfl, .inr ⟨⟨_, h⟩, PostI.here P1 R1 walk_tup ⟨hc, h, r⟩⟩⟩
      | lst h l r => exact ⟨_, rfl, .inl ⟨⟨_, SqL.of h⟩, PostI.here P1 R1 walk_lst ⟨hc, h, l, r⟩⟩⟩
      | scr h =>
        have h := scr_of h
        rw [hc] at h
        exact ⟨_, rfl, .inl ⟨⟨_, scr_sq h⟩, PostI.here P1 R1 walk_scr h⟩⟩
      | _ => exact P1.elim
end

/-! ### comprehensions -/
def noEx {α : Type} (r : Res α) : Res α := match r with
  | .ok x st => .ok x st
  | _ => .bad
def wipeS (S : Slots) : List Nat → Slots
  | [] => S
  | v :: vs => (wipeS S vs).set v none
/-- each item's value, in order -/
def compL (tg : DG) (t : DT) (e : DE) (S0 : Slots) : List AV → Store → Res (List AV)
  | [], st => .ok [] st
  | x :: xs, st => match tg x S0 with
    | none => .bad
    | some S1 => (t S1 st).then fun k st1 => bif k then (e S1 st1).then fun y st2 => (compL tg t e S0 xs st2).then fun ys st3 => .ok (y :: ys) st3 else compL tg t e S0 xs st1
def dComp (r : Bool) (vs : List Nat) (it : DA) (tg : DG) (t : DT) (e : DE) : DE := fun S st => (it S st).then fun xs st1 => (noEx (compL tg t e (wipeS S vs) xs st1)).then fun ys st2 => bif Nat.ble ys.length 1000000 then newL r ys st2 else .bad
abbrev W0 : WX := fun _ _ _ _ => False
def dYes : DT := fun _ st => .ok true st
section
variable {X : Cx} {c : Ct} {W : WX} {F : Fix} {m : Nat → Addr} {H : Hp} {S : Slots} {σ : St} {st : Store}
theorem wipeS_len (S : Slots) : ∀ vs : List Nat, (wipeS S vs).length = S.length
  | [] => rfl
  | v :: vs => by unfold wipeS; rw [List.length_set, wipeS_len S vs]
theorem Rel.wipe (R : Rel F m st S σ H) : ∀ vs : List Nat, Rel F m st (wipeS S vs) (wipe σ vs) H
  | [] => R
  | v :: vs => (Rel.wipe R vs).unslot
theorem wipe_get {σ : St} {i : Nat} : ∀ {vs : List Nat}, i ∈ vs → i < σ.length → (L2.wipe σ vs)[i]? = some none
  | [], h, _ => by simp at h
  | v :: vs, h, hi => by
    unfold L2.wipe
    by_cases q : i = v
    · subst q
      rw [List.getElem?_set_self (by rw [wipe_length]; exact hi)]
    · rw [List.getElem?_set_ne (Ne.symm q)]
      exact wipe_get (by simpa [q] using h) hi
theorem wipe_off {σ : St} {i : Nat} : ∀ {vs : List Nat}, i ∉ vs → (L2.wipe σ vs)[i]? = σ[i]?
  | [], _ => rfl
  | v :: vs, h => by
    have h1 : v ≠ i := fun z => h (by subst z; exact List.mem_cons_self)
    unfold L2.wipe
    rw [List.getElem?_set_ne h1, wipe_off fun z => h (List.mem_cons_of_mem _ z)]
/-- the block's own names forgotten again -/
theorem wipe_same {σ σ2 : St} {is vs : List Nat} (o : Off is (L2.wipe σ vs) σ2) (h : ∀ i ∈ is, i ∈ vs) : L2.wipe σ2 vs = L2.wipe σ vs := by
  have hl : σ2.length = σ.length := o.1.trans (wipe_length σ vs)
  apply List.ext_getElem?
  intro i
  by_cases hi : i ∈ vs
  · by_cases hb : i < σ.length
    · rw [wipe_get hi (by omega), wipe_get hi hb]
    · rw [List.getElem?_eq_none_iff.mpr (by rw [wipe_length]; omega), List.getElem?_eq_none_iff.mpr (by rw [wipe_length]; omega)]
  · rw [wipe_off hi, o.2 i (fun z => hi (h i z)), wipe_off hi]
theorem wipe_wipe (σ : St) (vs : List Nat) : L2.wipe (L2.wipe σ vs) vs = L2.wipe σ vs := wipe_same ⟨rfl, fun _ _ => rfl⟩ (is := []) (by simp)
/-- the list at D, made within, becomes a place of the store -/
theorem Rel.adopt {D : Addr} {xs : List AV} {acc : List V} (R : Rel (F.av D) m st S σ H) (hD : H D = some (.lst acc)) (h0 : F.H0 D = none) (hz : ¬ F.Z D) (rx : AVls0 (F.av D) m st.length H xs acc) :
    ∃ m', (∀ i, i < st.length → m' i = m i) ∧ m' st.length = D ∧ Rel F m' (st ++ [.lst (xs.map strip)]) S σ H := by
  have hm : ∀ i, i < st.length → (fun j => if j = st.length then D else m j) i = m i := fun i hi => if_neg (by omega)
  have hme : (fun j => if j = st.length then D else m j) st.length = D := if_pos rfl
  generalize hmm : (fun j => if j = st.length then D else m j) = m' at hm hme
  have hl : (st ++ [AO.lst (xs.map strip)]).length = st.length + 1 := by simp
  have nD : ∀ i, i < st.length → m i ≠ D := (R.zd D (.inr rfl)).2
  have kL : ∀ t b, Lw (F.av D) m st.length t b → H b ≠ none → Lw F m' (st.length + 1) t b := fun t b l _ => ⟨l.1, fun z => l.2.1 (.inl z), fun i hi z => by
    by_cases q : i < st.length
    · exact l.2.2 i q ((hm i q).symm.trans z)
    · have : i = st.length := by omega
      subst this
      rw [hme] at z
      exact l.2.1 (.inr z.symm)⟩
  have v0 : ∀ {x : AV} {v : V}, AVal0 (F.av D) m st.length H x v → AVal0 F m' (st.length + 1) H x v := fun {x v} h => by
    cases h with
    | v h => exact .v (Val.ground kL h)
    | ref h => rw [← hm _ h]; exact .ref (by omega)
  have v1 : ∀ {x : AV} {v : V}, AVal (F.av D) m st.length H x v → AVal F m' (st.length + 1) H x v := fun {x v} h => by
    cases h with
    | v h f =>
      refine .v (Val.ground kL h) fun e => ?_
      obtain ⟨t, ys, a, us, rfl, rfl, q, ha, r⟩ := f e
      exact ⟨t, ys, a, us, rfl, rfl, q, ha, Vls.ground (fun t a l e => ⟨kL t a l.1 e, l.2⟩) r⟩
    | ref h => rw [← hm _ h]; exact .ref (by omega)
  have ob : ∀ {o : AO} {u : HO}, AObj (F.av D) m st.length H o u → AObj F m' (st.length + 1) H o u := fun {o u} h => by
    cases h with
    | lst h => exact .lst (Paired.mapP h fun _ _ => v0)
    | dK h => exact .dK (Paired.mapP h fun a b z => ⟨z.1, v0 z.2⟩)
    | dT h => exact .dT (Paired.mapP h fun a b z => ⟨z.1, v0 z.2⟩)
    | lk h => exact .lk (Paired.mapP h fun a b z => ⟨z.1, v0 z.2⟩)
    | lkK h => exact .lkK (Paired.mapP h fun a b z => ⟨z.1, v0 z.2⟩)
    | lkL h => exact .lkL (Paired.mapP h fun _ _ => v0)
    | ins h => exact .ins (F := F) (Paired.mapP h fun a b z => ⟨z.1, v0 z.2⟩)
  refine ⟨m', hm, hme, ⟨fun i j hi hj e => ?_, fun i hi => ?_, R.keep, R.imm, R.dom, fun b h => ⟨(R.zd b (.inl h)).1, fun i hi z => ?_⟩, fun i o e => ?_, R.len, fun i x e => ?_, R.tab⟩⟩
  · rw [hl] at hi hj
    by_cases a : i = st.length
    · by_cases b : j = st.length
      · rw [a, b]
      · rw [a, hme, hm j (by omega)] at e
        exact absurd e.symm (nD j (by omega))
    · by_cases b : j = st.length
      · rw [b, hme, hm i (by omega)] at e
        exact absurd e (nD i (by omega))
      · rw [hm i (by omega), hm j (by omega)] at e
        exact R.inj i j (by omega) (by omega) e
  · rw [hl] at hi
    by_cases a : i = st.length
    · subst a; rw [hme]; exact .inr h0
    · rw [hm i (by omega)]; exact R.own i (by omega)
  · rw [hl] at hi
    by_cases a : i = st.length
    · subst a; rw [hme] at z; subst z
      exact hz h
    · rw [hm i (by omega)] at z; exact (R.zd b (.inl h)).2 i (by omega) z
  · rw [hl]
    by_cases a : i = st.length
    · subst a
      rw [List.getElem?_append_right (Nat.le_refl _), Nat.sub_self] at e
      cases e
      exact ⟨.lst acc, by rw [hme]; exact hD, .lst (AVls.zero (AVls0.strip (Paired.mapP rx fun _ _ => v0)))⟩
    · have hi : i < st.length := by
        have := (List.getElem?_eq_some_iff.mp e).1
        rw [hl] at this; omega
      rw [List.getElem?_append_left hi] at e
      obtain ⟨u', h1, h2⟩ := R.sto i o e
      exact ⟨u', by rw [hm i hi]; exact h1, ob h2⟩
  · rw [hl]
    obtain ⟨v, h1, h2⟩ := R.slo i x e
    exact ⟨v, h1, v1 h2⟩
/-- the list at D, which no value names, is made longer -/
theorem Rel.zset {D : Addr} {acc acc' : List V} (R : Rel F m st S σ H) (hz : F.Z D) (h0 : F.H0 D = none) (hD : H D = some (.lst acc)) : Rel F m st S σ (upd H D (.lst acc')) ∧ Step m st.length (fun b => if b = D then none else H b) m st.length (upd H D (.lst acc')) ∧
    ∀ {xs : List AV} {vs : List V}, AVls0 F m st.length H xs vs → AVls0 F m st.length (upd H D (.lst acc')) xs vs := by
  have ki : ∀ a o, H a = some o → isMut o = false → upd H D (.lst acc') a = some o := fun a o h q => by
    rw [upd_ne (fun z => by subst z; rw [hD] at h; cases h; cases q)]; exact h
  have kl : ∀ t a o, Lw F m st.length t a → H a = some o → isTab o = false → upd H D (.lst acc') a = some o := fun t a o l h _ => by
    rw [upd_ne (fun z => l.2.1 (by rw [z]; exact hz))]; exact h
  have kL : ∀ t a, Lw F m st.length t a → H a ≠ none → Lw F m st.length t a := fun t a l _ => l
  have dm : ∀ b, H b ≠ none → upd H D (.lst acc') b ≠ none := fun b h => by
    by_cases e : b = D
    · rw [e, upd_same]; simp
    · rw [upd_ne e]; exact h
  have v0 : ∀ {x : AV} {v : V}, AVal0 F m st.length H x v → AVal0 F m st.length (upd H D (.lst acc')) x v := fun {x v} h => by
    cases h with
    | v h => exact .v (Val.mono ki kl kL h)
    | ref h => exact .ref h
  have v1 : ∀ {x : AV} {v : V}, AVal F m st.length H x v → AVal F m st.length (upd H D (.lst acc')) x v := fun {x v} h => by
    cases h with
    | v h f =>
      refine .v (Val.mono ki kl kL h) fun e => ?_
      obtain ⟨t, ys, a, us, rfl, rfl, q, ha, r⟩ := f e
      exact ⟨t, ys, a, us, rfl, rfl, q, kl t a _ (Val.lst_L h) ha rfl, Vls.mono ki (fun t a o l => kl t a o l.1) (fun t a l e => l) r⟩
    | ref h => exact .ref h
  have ob : ∀ {o : AO} {u : HO}, AObj F m st.length H o u → AObj F m st.length (upd H D (.lst acc')) o u := fun {o u} h => by
    cases h with
    | lst h => exact .lst (Paired.mapP h fun _ _ => v0)
    | dK h => exact .dK (Paired.mapP h fun a b z => ⟨z.1, v0 z.2⟩)
    | dT h => exact .dT (Paired.mapP h fun a b z => ⟨z.1, v0 z.2⟩)
    | lk h => exact .lk (Paired.mapP h fun a b z => ⟨z.1, v0 z.2⟩)
    | lkK h => exact .lkK (Paired.mapP h fun a b z => ⟨z.1, v0 z.2⟩)
    | lkL h => exact .lkL (Paired.mapP h fun _ _ => v0)
    | ins h => exact .ins (Paired.mapP h fun a b z => ⟨z.1, v0 z.2⟩)
  refine ⟨⟨R.inj, R.own, fun b o h1 h2 nt => ?_, fun b o h1 h2 => ki b o (R.imm b o h1 h2) h2, fun b h => dm b (R.dom b h), fun b h => ⟨dm b (R.zd b h).1, (R.zd b h).2⟩, fun i o e => ?_, R.len, fun i x e => ?_, tabs_upd R.tab hD rfl rfl⟩, ?_, fun h => Paired.mapP h fun _ _ => v0⟩
  · rw [upd_ne (fun z => by rw [z, h0] at h1; cases h1)]; exact R.keep b o h1 h2 nt
  · obtain ⟨u, h1, h2⟩ := R.sto i o e
    refine ⟨u, ?_, ob h2⟩
    rw [upd_ne ((R.zd D hz).2 i (List.getElem?_eq_some_iff.mp e).1)]; exact h1
  · obtain ⟨v, h1, h2⟩ := R.slo i x e
    exact ⟨v, h1, v1 h2⟩
  · have un : ∀ b o, (fun b => if b = D then none else H b) b = some o → H b = some o ∧ b ≠ D := fun b o h => by
      by_cases e : b = D
      · simp only [e, if_pos] at h; cases h
      · simp only [if_neg e] at h; exact ⟨h, e⟩
    refine ⟨Nat.le_refl _, fun _ _ => rfl, fun i h1 h2 => absurd h2 (by omega), fun b o h _ _ => ?_, fun b h => ?_, fun b o h _ => ?_⟩
    · obtain ⟨h1, h2⟩ := un b o h
      rw [upd_ne h2]; exact h1
    · by_cases e : b = D
      · rw [e, upd_same]; simp
      · rw [upd_ne e]; simpa [if_neg e] using h
    · obtain ⟨h1, h2⟩ := un b o h
      rw [upd_ne h2]; exact h1
/-- a step from a heap without D goes on over a change at D -/
theorem Step.over {m1 : Nat → Addr} {N1 N : Nat} {H1 : Hp} {D : Addr} {u : HO} (s : Step m1 N1 H1 m N H) (hD : H1 D = none) (hd : ∀ i, i < N1 → m1 i ≠ D) : Step m1 N1 H1 m N (upd H D u) := by
  refine ⟨s.le, s.same, s.new, fun b o h k nt => ?_, fun b h => ?_, fun b o h q => ?_⟩
  · rw [upd_ne (ne_of_none h hD)]; exact s.keep b o h k nt
  · by_cases e : b = D
    · rw [e, upd_same]; simp
    · rw [upd_ne e]; exact s.dom b h
  · rw [upd_ne (ne_of_none h hD)]; exact s.imm b o h q
abbrev PTsA (X : Cx) (c : Ct) (W : WX) (ifs : List Expr) (d : DT) : Prop := PTs X ifs (tG rB c W d)
theorem ptsa_nil : PTsA X c W [] dYes := ⟨fun pins s σ H Q I ⟨F, m, st, S, hc, R, P⟩ => pts_nil.run pins s σ H Q I (PostE.here P R rfl)⟩
theorem ptsa_one {e : Expr} {d : DT} (h : PTA X c W e d) : PTsA X c W [e] d := pts_one h
theorem comp_ok (r : Bool) {vs is : List Nat} {di : DA} {dg : DG} {dt : DT} {de : DE} (his : ∀ i ∈ is, i ∈ vs) {σ : St} {H : Hp} {Q : VK} :
    tG rV c W (dComp r vs di dg dt de) σ H Q → tLc (tI c W di) (tgG c is dg) (tG rB c W0 dt) (tG rV c W0 de) vs σ H Q := fun ⟨F, m, s, S, hc, R, P⟩ => by
  refine ⟨F, m, s, S, hc, R, ?_⟩
  have P2 : PostI c W F m s.length H S σ (di S s) fun J H1 => ∃ m1 st1 xs G, di S s = .ok xs st1 ∧ Step m s.length H m1 st1.length H1 ∧ Rel F m1 st1 S σ H1 ∧ WalkA c J xs G ∧ G F m1 st1.length H1 ∧
      PostE rV W F m1 st1.length H1 S σ ((noEx (compL dg dt de (wipeS S vs) xs st1)).then fun ys st2 => bif Nat.ble ys.length 1000000 then newL r ys st2 else .bad) Q := by
    unfold dComp at P
    cases e : di S s with
    | ok xs st1 => rw [e] at P; exact fun m1 H1 J G a b w g => ⟨m1, st1, xs, G, rfl, a, b, w, g, PostE.shift a P⟩
    | ex x st1 => rw [e] at P; exact P
    | bad => rw [e] at P; exact P
  have imp : ∀ {rr : Res (List AV)} {T T' : It → Hp → Prop}, PostI c W F m s.length H S σ rr T → (∀ J H, T J H → T' J H) → PostI c W F m s.length H S σ rr T' := fun {rr T T'} h f => by
    cases rr with
    | ok x st' => exact fun m' H' J G a b w g => f _ _ (h m' H' J G a b w g)
    | ex e st' => exact h
    | bad => exact h
  refine imp P2 fun J H1 ⟨m1, s1, xs, G, _, a1, R1, w, g1, P1⟩ D hD => ?_
  -- the whole comes to a list
  obtain ⟨tot, sF, eF⟩ : ∃ tot sF, compL dg dt de (wipeS S vs) xs s1 = .ok tot sF := by
    cases e : compL dg dt de (wipeS S vs) xs s1 with
    | ok tot sF => exact ⟨tot, sF, rfl⟩
    | ex x st => rw [e] at P1; exact P1.elim
    | bad => rw [e] at P1; exact P1.elim
  rw [eF] at P1
  have P1 : PostE rV W F m1 s1.length H1 S σ (bif Nat.ble tot.length 1000000 then newL r tot sF else .bad) Q := P1
  cases hb : Nat.ble tot.length 1000000 with
  | false => rw [hb] at P1; exact P1.elim
  | true =>
  rw [hb] at P1
  simp only [cond_true] at P1
  have h0 : F.H0 D = none := R1.h0 hD
  have hz : ¬ F.Z D := fun z => (R1.zd D z).1 hD
  have nD := R1.nb hD
  have line : tot.length ≤ 1000000 := Nat.le_of_ble_eq_true hb
  let Inv : Nat → Hp → Prop := fun i H => i ≤ xs.length ∧ ∃ m st accs acc ys, Step m1 s1.length H1 m st.length H ∧ Rel (F.av D) m st S σ H ∧ G (F.av D) m st.length H ∧ H D = some (.lst acc) ∧ AVls0 (F.av D) m st.length H accs acc ∧
    compL dg dt de (wipeS S vs) (xs.drop i) st = .ok ys sF ∧ tot = accs ++ ys
  refine ⟨fun i n H => n = xs.length - i ∧ Inv i H, ⟨_, rfl, Nat.zero_le _, m1, s1, [], [], tot, Step.of (same_upd hD), R1.av hD (same_upd hD) (by rw [upd_same]; simp), w.stay _ _ _ _ _ _ _ (Step.of (same_upd hD)) (w.av F m1 s1.length H1 D hD g1), upd_same, .nil, eF, rfl⟩, ?_⟩
  rintro i n H2 ⟨rfl, hi, m2, s2, accs, acc, ys, st2, R2, g2, hD2, ra, ec, et⟩
  by_cases hlt : i < xs.length
  · have ex : xs[i]? = some xs[i] := List.getElem?_eq_getElem hlt
    refine .inr ⟨w.go (F.av D) m2 s2 S σ H2 i _ hc R2 g2 ex, Inv (i + 1), fun H' q => ⟨xs.length - (i + 1), by omega, rfl, q⟩, fun v H3 y => ?_⟩
    obtain ⟨s3, r3⟩ := w.yld (F.av D) m2 s2 S σ H2 i _ v H3 hc R2 g2 ex y
    have R3 := R2.same s3
    have g3 := w.stay _ _ _ _ _ _ _ (Step.of (m := m2) (N := s2.length) s3) g2
    rw [List.drop_eq_getElem_cons hlt] at ec
    refine ⟨F.av D, m2, s2, wipeS S vs, xs[i], hc, R3.wipe vs, r3, ?_⟩
    cases q : dg xs[i] (wipeS S vs) with
    | none => simp only [compL, q] at ec; cases ec
    | some S4 =>
      simp only [compL, q] at ec
      refine fun σ4 R4 o4 => ⟨wipe_same o4 his, F.av D, m2, s2, S4, hc, R4, ?_⟩
      cases q2 : dt S4 s2 with
      | ex x st => rw [q2] at ec; cases ec
      | bad => rw [q2] at ec; cases ec
      | ok k st4 =>
        rw [q2] at ec
        refine fun m5 k' H5 a5 R5 r5 => ?_
        have r5 : k = k' := r5
        subst r5
        have ec : (bif k then (de S4 st4).then fun y st2 => (compL dg dt de (wipeS S vs) (xs.drop (i + 1)) st2).then fun ys st3 => .ok (y :: ys) st3 else compL dg dt de (wipeS S vs) (xs.drop (i + 1)) st4) = .ok ys sF := ec
        have a25 := (Step.of (m := m2) (N := s2.length) s3).trans a5
        have base : ∀ {m' : Nat → Addr} {st' : Store} {σ' : St} {S' : Slots} {H' : Hp}, Step m2 s2.length H2 m' st'.length H' → Rel (F.av D) m' st' S' σ' H' → Rel (F.av D) m' st' S σ H' := fun {m' st' σ' S' H'} a R' => R'.slots R2.len fun j x e => by
          obtain ⟨v, h1, h2⟩ := R2.slo j x e
          exact ⟨v, h1, AVal.step a h2⟩
        have keepD : ∀ {m' : Nat → Addr} {N' : Nat} {H' : Hp}, Step m2 s2.length H2 m' N' H' → H' D = some (.lst acc) := fun a => a.keep D _ hD2 (R2.zd D (.inr rfl)).2 rfl
        cases k with
        | false =>
          refine iteF ?_
          exact ⟨hlt, m5, st4, accs, acc, ys, st2.trans a25, base a25 R5, w.stay _ _ _ _ _ _ _ a25 g2, keepD a25, AVls0.step a25 ra, ec, et⟩
        | true =>
          refine iteT ?_
          simp only [cond_true] at ec
          refine ⟨F.av D, m5, st4, S4, hc, R5, ?_⟩
          cases q3 : de S4 st4 with
          | ex x st => rw [q3] at ec; cases ec
          | bad => rw [q3] at ec; cases ec
          | ok y st5 =>
            rw [q3] at ec
            refine fun m6 u H6 a6 R6 r6 => ?_
            have a26 := a25.trans a6
            have ec : ((compL dg dt de (wipeS S vs) (xs.drop (i + 1)) st5).then fun ys st3 => .ok (y :: ys) st3) = .ok ys sF := ec
            cases q4 : compL dg dt de (wipeS S vs) (xs.drop (i + 1)) st5 with
            | ex x st => rw [q4] at ec; cases ec
            | bad => rw [q4] at ec; cases ec
            | ok ys' st6 =>
              rw [q4] at ec
              have ec : Res.ok (y :: ys') st6 = .ok ys sF := ec
              cases ec
              have hD6 := keepD a26
              have rb := base a26 R6
              obtain ⟨Z1, Z2, Z3⟩ := Rel.zset (acc' := acc ++ [u]) rb (.inr rfl) h0 hD6
              have la : acc.length = accs.length := (Paired.length ra).symm
              have lt : tot.length = accs.length + (ys'.length + 1) := by rw [et]; simp
              refine ⟨acc, hD6, by rw [la]; exact Nat.lt_of_lt_of_le (show accs.length < 1000001 by omega) (by decide), hlt, m6, st5, accs ++ [y], acc ++ [u], ys', (st2.trans a26).over hD nD, Z1, ?_, upd_same, pairedAppend (Z3 (AVls0.step a26 ra)) (Z3 (.cons r6.zero .nil)), q4, by rw [et]; simp⟩
              exact w.over (F.av D) m6 st5.length H6 D acc (acc ++ [u]) (.inr rfl) hD6 (w.stay _ _ _ _ _ _ _ a26 g2)
  · have : i = xs.length := by omega
    subst this
    rw [List.drop_length] at ec
    have ec : Res.ok [] s2 = .ok ys sF := ec
    cases ec
    rw [List.append_nil] at et
    subst et
    refine .inl ⟨w.stop (F.av D) m2 sF S σ H2 hc R2 g2, ?_⟩
    unfold newL at P1
    cases r with
    | false =>
      simp only [cond_false] at P1
      cases e : toPs tot with
      | none => rw [e] at P1; exact P1.elim
      | some ps =>
        rw [e] at P1
        have rv := toPs_ok ra e
        refine P1 m2 _ H2 st2 R2.unav (.v (.lst hD2 ?_ (Vls.ground (fun t b l _ => ⟨l.1, fun z => l.2.1 (.inl z), l.2.2⟩) rv)) fun _ => ⟨true, ps, D, acc, rfl, rfl, h0, hD2, Vls.unav rv⟩)
        exact lw_true.mpr ⟨F.hA D h0, hz, (R2.zd D (.inr rfl)).2⟩
    | true =>
      simp only [cond_true] at P1
      obtain ⟨m', h1, h2, R'⟩ := Rel.adopt R2 hD2 h0 hz ra
      have := P1 m' (.ref (m' sF.length)) H2 ⟨by have := st2.le; simp; omega, fun i hi => (h1 i (Nat.lt_of_lt_of_le hi st2.le)).trans (st2.same i hi), fun i h3 h4 => ?_, st2.keep, st2.dom, st2.imm⟩ R' (.ref (by simp))
      · rw [h2] at this; exact this
      · have hl : (sF ++ [AO.lst (tot.map strip)]).length = sF.length + 1 := by simp
        rw [hl] at h4
        by_cases q : i < sF.length
        · rw [h1 i q]; exact st2.new i h3 q
        · have : i = sF.length := by omega
          subst this; rw [h2]; exact hD
theorem pea_comp (r : Bool) {elt tg iter : Expr} {ifs : List Expr} {scope : Scope} {own : List (Str × Nat)} {is : List Nat} {pos : Pos} {di : DA} {dg : DG} {dt : DT} {de : DE} (cn : Cn X c) (hi : PIA X c W tg iter di) (ok : BlkOk X.N X.env.scope scope own) (his : ∀ i ∈ is, i ∈ own.map (·.2))
    (hg : ∀ (s : Shared) (H : Hp) (C : Addr) (cl : List (Str × Addr)) (fp : List Addr), PGA (X.blk s H scope (compEnvC scope cl C X.env) fp) c is tg dg) (ht : ∀ (s : Shared) (H : Hp) (C : Addr) (cl : List (Str × Addr)) (fp : List Addr), PTsA (X.blk s H scope (compEnvC scope cl C X.env) fp) c W0 ifs dt)
    (he : ∀ (s : Shared) (H : Hp) (C : Addr) (cl : List (Str × Addr)) (fp : List Addr), PEA (X.blk s H scope (compEnvC scope cl C X.env) fp) c W0 elt de) (hs : ∀ x, foldedSetIterable iter X.env x = pure x := by intro _; rfl) :
    PEA X c W (.ListComp elt [⟨tg, iter, ifs, 0⟩] scope pos) (dComp r (own.map (·.2)) di dg dt de) := (pe_lc cn.calm cn.nd hi ok hg ht he hs).imp fun _ _ _ => comp_ok r his
/-- y = [..] on one line, y a local that no block captures -/
theorem psa_setLc (r : Bool) {i : Nat} {y : Str} {py spos : Pos} {elt tg iter : Expr} {ifs : List Expr} {scope : Scope} {own : List (Str × Nat)} {is : List Nat} {pos : Pos} {di : DA} {dg : DG} {dt : DT} {de : DE} (cn : Cn X c) (hi : PIA X c W tg iter di) (ok : BlkOk X.N X.env.scope scope own) (his : ∀ i ∈ is, i ∈ own.map (·.2))
    (hg : ∀ (s : Shared) (H : Hp) (C : Addr) (cl : List (Str × Addr)) (fp : List Addr), PGA (X.blk s H scope (compEnvC scope cl C X.env) fp) c is tg dg) (ht : ∀ (s : Shared) (H : Hp) (C : Addr) (cl : List (Str × Addr)) (fp : List Addr), PTsA (X.blk s H scope (compEnvC scope cl C X.env) fp) c W0 ifs dt)
    (he : ∀ (s : Shared) (H : Hp) (C : Addr) (cl : List (Str × Addr)) (fp : List Addr), PEA (X.blk s H scope (compEnvC scope cl C X.env) fp) c W0 elt de)
    (hsw : swapsWith (.ListComp elt [⟨tg, iter, ifs, 0⟩] scope pos) (some (.Name y py)) spos.line X.env = pure true) (hy : X.N[i]? = some y := by rfl) (hyl : X.env.scope.names.lookup y = some .local := by rfl) (hs : ∀ x, foldedSetIterable iter X.env x = pure x := by intro _; rfl) :
    PSA X c W (.Assign [.Name y py] (.ListComp elt [⟨tg, iter, ifs, 0⟩] scope pos) spos) (dSet i (dComp r (own.map (·.2)) di dg dt de)) := (ps_setLc cn.calm cn.nd hy hyl hsw hi ok hg ht he hs).imp fun D σ H ⟨F, m, s, S, hc, R, P⟩ =>
  comp_ok r his ⟨F, m, s, S, hc, R, (PostS.bind P).imp fun v H1 ⟨m1, st1, x, _, a, b, rx, P1⟩ => P1 m1 _ H1 Step.refl (b.slot rx)⟩
end
end A

/-! The A-layer, part 7: isinstance. -/
namespace A
open PySem PySem.Spec PyProof.Rows L2

/-- a class: a built-in one, an own one -/
inductive Ty where
  | b (n : String)
  | o (C : Nat)
  /-- an own class of exceptions -/
  | x (C : Nat)
  deriving DecidableEq
def Ty.val (c : Ct) : Ty → Value
  | .b n => .type n
  | .o C => .ref (c.ca C)
  | .x C => .ref (c.ca C)
def tyP : PV → Option Ty
  | .non => some (.b "NoneType")
  | .bl _ => some (.b "bool")
  | .int _ => some (.b "int")
  | .str _ => some (.b "str")
  | .tup _ => some (.b "tuple")
  | .lst _ _ => some (.b "list")
  | .scr _ => some (.b "list")
  | .dct _ _ _ => some (.b "dict")
  | .obj _ C _ _ => some (.o C)
  | .exn C => some (.x C)
  | _ => none
def tyA (st : Store) : AV → Option Ty
  | .v p _ => tyP p
  | .ref n => match st[n]? with
    | some (.lst _) => some (.b "list")
    | some (.dK _) => some (.b "dict")
    | some (.dT _) => some (.b "dict")
    | some (.ins C _) => some (.o C)
    | some (.lk _) => none
    | some (.lkK _) => none
    | some (.lkL _) => none
    | none => none
/-- what isinstance asks of a class -/
structure InsOk (K : PySem.W.Frag) (C : Addr) : Prop where
  cl : Cls K C
  ha : PySem.W.findIn K (.ref C) "__class__" = some (some (.builtin "object.__class__"))
  hn : PySem.W.specialIn K (.builtin "object.__class__") "__get__" = some (some (.builtin "getset_descriptor.__get__"))
  ht : PySem.W.takesIn K (.builtin "object.__class__") = some true
  hm : PySem.W.mroIn K C (.type "object") = some true
/-- tb: which class is under which; cs: the own classes of values -/
structure KitOk (c : Ct) (tb : Ty → Ty → Option Bool) (cs : List Ty) : Prop where
  one : ∀ t u b, tb t u = some b → PySem.W.kitOne c.K (t.val c) (u.val c) = some b
  ins : ∀ C, Ty.o C ∈ cs → InsOk c.K (c.ca C)
  exc : ∀ C, Ty.x C ∈ cs → ExcC c.K (c.ca C)
def okTy (cs : List Ty) : Ty → Bool
  | .b _ => true
  | t => cs.contains t
/-- a value's type: exceptions too -/
def TyE (K : PySem.W.Frag) (H : Hp) (x : V) (t : Value) : Prop := TyX K H x t ∨ ∃ a D : Addr, x = .ref a ∧ t = .ref D ∧ H a = some (ExK (.ref D) none a) ∧ ExcC K D
theorem kit_ofE {X : Cx} {pins : List (Addr × Obj)} {σ : St} {H : Hp} {s : Shared} {x : V} {u t : Value} (I : Inv X pins σ H s) (rx : RelV x u) (ty : TyE X.K H x t) : ∃ P : Heap → Prop, PySem.W.KitX X.K u t P ∧ P s.heap ∧ u ≠ .builtin "__main__.__loader__#opaque" := by
  rcases ty with ty | ⟨a, D, rfl, rfl, ha, C⟩
  · exact kit_of I rx ty
  · cases (show u = Value.ref a from rx)
    obtain ⟨⟨o, vs, get, hz, hv⟩, _⟩ := I.hok a _ ha
    have inst : PySem.W.InstAt s.heap a o D none := by
      obtain ⟨oc, od, oda, osl⟩ := o
      obtain ⟨h1, h2⟩ := hz
      dsimp only at h1 h2 hv
      subst h1 h2 hv
      exact ⟨get, rfl, rfl, trivial⟩
    exact ⟨_, PySem.W.handS_kitx_exc C.hg C.hk C.hs C.hd C.ha C.hn C.ht C.hm, inst, fun z => nomatch z⟩
def rIsiE (K : PySem.W.Frag) : List V → Hp → VK → Prop := fun xs H Q => ∃ (x c : V) (t u : Value) (b : Bool), xs = [x, c] ∧ ClsV c u ∧ TyE K H x t ∧ PySem.W.kitOne K t u = some b ∧ Q (.bl b) H
def rIsiTE (K : PySem.W.Frag) : List V → Hp → VK → Prop := fun xs H Q => ∃ (x : V) (tp : Addr) (cs : List V) (t : Value) (us : List Value) (b : Bool), xs = [x, .ref tp] ∧ H tp = some (.tup cs) ∧ Paired ClsV cs us ∧ TyE K H x t ∧ PySem.W.kitAny K t us = some b ∧ Q (.bl b) H
theorem call_isiE {X : Cx} : CallR X (.builtin "isinstance") (rIsiE X.K) := by
  intro pins s σ H xs us Q I r h
  obtain ⟨x, c, t, u, b, rfl, k, ty, e, q⟩ := h
  obtain ⟨u1, u2, rfl, r1, r2⟩ := vals2 r
  have e2 := k.eq r2
  subst e2
  obtain ⟨P, Z, p, hx⟩ := kit_ofE I r1 ty
  exact PySem.W.kia_one Z I.kIn p e hx fun tk => ⟨.bl b, H, I.tok tk, rfl, q⟩
theorem call_isiTE {X : Cx} : CallR X (.builtin "isinstance") (rIsiTE X.K) := by
  intro pins s σ H xs us Q I r h
  obtain ⟨x, tp, cs, t, ws, b, rfl, hT, k, ty, e, q⟩ := h
  obtain ⟨u1, u2, rfl, r1, r2⟩ := vals2 r
  cases (show u2 = Value.ref tp from r2)
  obtain ⟨P, Z, p, hx⟩ := kit_ofE I r1 ty
  obtain ⟨_, its, rv, o, h1, h2, n, h3⟩ := (show ObjOk X.prog X.w H s.heap tp (.tup cs) from I.hok tp _ hT)
  have e3 := ClsV.all k rv
  subst e3
  obtain ⟨oc, od, dt, sl⟩ := o
  simp only at h2 h3
  subst h2 h3
  exact PySem.W.kia_tup Z I.kIn p h1 e hx fun tk => ⟨.bl b, H, I.tok tk, rfl, q⟩
def clsTy : PV → Option Ty
  | .ty n => some (.b n)
  | .cls C => some (.o C)
  | _ => none
/-- under one of them -/
def anyTy (tb : Ty → Ty → Option Bool) (t : Ty) : List PV → Option Bool
  | [] => some false
  | p :: r => match clsTy p with
    | some u => match tb t u with
      | some true => match anyTy tb t r with
        | some _ => some true
        | none => none
      | some false => anyTy tb t r
      | none => none
    | none => none
def fIsi (tb : Ty → Ty → Option Bool) (cs : List Ty) : List AV → Store → Res AV := fun xs st => match xs with
  | [x, .v p _] => match tyA st x, clsTy p with
    | some t, some u => bif okTy cs t then (match tb t u with
      | some b => .ok (.v (.bl b) false) st
      | none => .bad) else .bad
    | _, _ => .bad
  | _ => .bad
section
variable {X : Cx} {c : Ct} {tb : Ty → Ty → Option Bool} {cs : List Ty} {F : Fix} {m : Nat → Addr} {H : Hp} {S : Slots} {σ : St} {st : Store}
theorem tyA_ok (kit : KitOk c tb cs) (hc : F.c = c) (R : Rel F m st S σ H) {x : AV} {v : V} {t : Ty} (h : AVal0 F m st.length H x v) (e : tyA st x = some t) (ok : okTy cs t = true) : TyE c.K H v (t.val c) := by
  have insT : ∀ {C : Nat} {a dx : Addr} {fs : List (Str × V)}, okTy cs (.o C) = true → H a = some (.ins (c.ca C) dx fs) → TyE c.K H (.ref a) (.ref (c.ca C)) := fun {C a dx fs} ok h => by
    have i := kit.ins C (by simpa [okTy] using ok)
    exact .inl (.base (.ins h i.cl i.ha i.hn i.ht i.hm))
  cases h with
  | v h =>
    cases h with
    | non => cases e; exact .inl (.base .non)
    | bl b => cases e; exact .inl (.base (.bl b))
    | int b => cases e; exact .inl (.base (.int b))
    | str b => cases e; exact .inl (.base (.str b))
    | tup h r =>
      cases e
      exact .inl (.base (.tup h))
    | lst h l r => cases e; exact .inl (.base (.lst h))
    | dct h z l r => cases e; exact .inl (.base (.dK h))
    | obj h z l r =>
      cases e
      rw [hc] at h
      exact insT ok h
    | scr h =>
      cases e
      rw [hc] at h
      rcases h with ⟨o, h, _⟩ | h
      · exact .inl (.base (.frz h))
      · rcases h with h | ⟨o, its, n, hk, hcl, _⟩
        · rcases h with h | ⟨o, h⟩ <;> cases h
        · exact .inl (.kList hk hcl)
    | ty n => cases e
    | cls n => cases e
    | exn h =>
      cases e
      rw [hc] at h
      exact .inr ⟨_, _, rfl, rfl, h, kit.exc _ (by simpa [okTy] using ok)⟩
  | ref hn =>
    rename_i n
    cases q : st[n]? with
    | none => simp only [tyA, q] at e; cases e
    | some o =>
      obtain ⟨u, h1, h2⟩ := R.sto n o q
      cases h2 with
      | lst _ => simp only [tyA, q] at e; cases e; exact .inl (.base (.lst h1))
      | dK _ => simp only [tyA, q] at e; cases e; exact .inl (.base (.dK h1))
      | dT _ => simp only [tyA, q] at e; cases e; exact .inl (.base (.dT h1))
      | lk _ => simp only [tyA, q] at e; cases e
      | lkK _ => simp only [tyA, q] at e; cases e
      | lkL _ => simp only [tyA, q] at e; cases e
      | ins _ =>
        simp only [tyA, q] at e; cases e
        rw [hc] at h1
        exact insT ok h1
theorem clsTy_ok {L : Bool → Addr → Prop} {p : PV} {v : V} {u : Ty} (h : Val c L H p v) (e : clsTy p = some u) : ClsV v (u.val c) := by
  cases h with
  | ty n => cases e; exact .ty n
  | cls n => cases e; exact .own _
  | _ => cases e
theorem anyTy_ok (kit : KitOk c tb cs) {t : Ty} {L : Bool → Addr → Prop} : ∀ {ps : List PV} {vs : List V} {b : Bool}, Vls c L H ps vs → anyTy tb t ps = some b → ∃ us, Paired ClsV vs us ∧ PySem.W.kitAny c.K (t.val c) us = some b
  | _, _, b, .nil, e => by cases e; exact ⟨[], .nil, rfl⟩
  | p :: ps, v :: vs, b, .cons h r, e => by
    unfold anyTy at e
    cases q : clsTy p with
    | none => rw [q] at e; cases e
    | some u =>
      rw [q] at e
      simp only at e
      cases q2 : tb t u with
      | none => rw [q2] at e; cases e
      | some k =>
        rw [q2] at e
        have one := kit.one t u k q2
        cases k with
        | true =>
          simp only at e
          cases q3 : anyTy tb t ps with
          | none => rw [q3] at e; cases e
          | some b' =>
            rw [q3] at e
            cases e
            obtain ⟨us, h1, h2⟩ := anyTy_ok kit r q3
            exact ⟨u.val c :: us, .cons (clsTy_ok h q) h1, kitAny_cons one (fun z => nomatch z) (fun _ => rfl)⟩
        | false =>
          simp only at e
          obtain ⟨us, h1, h2⟩ := anyTy_ok kit r e
          exact ⟨u.val c :: us, .cons (clsTy_ok h q) h1, kitAny_cons one (fun _ => h2) (fun z => nomatch z)⟩
theorem cr_isi (kit : KitOk c tb cs) : CRok c (rIsiE c.K) (fIsi tb cs) := by
  intro W F m st S σ H xs vs Q hc R rx P
  unfold fIsi at P
  split at P
  · rename_i x p fr
    cases rx with
    | cons a r =>
      cases r with
      | cons b r =>
        cases r
        cases e : tyA st x with
        | none => rw [e] at P; exact P.elim
        | some t =>
          rw [e] at P
          cases q2 : clsTy p with
          | none => rw [q2] at P; exact P.elim
          | some u =>
            rw [q2] at P
            simp only at P
            cases q : okTy cs t with
            | false => rw [q] at P; exact P.elim
            | true =>
              rw [q] at P
              simp only [cond_true] at P
              cases q3 : tb t u with
              | none => rw [q3] at P; exact P.elim
              | some k =>
                rw [q3] at P
                cases b with
                | v h _ =>
                  rw [hc] at h
                  exact ⟨_, _, _, _, k, rfl, clsTy_ok h q2, tyA_ok kit hc R a.zero e q, kit.one t u k q3, PostE.here P R (.v (.bl _) fun e => nomatch e)⟩
  · exact P.elim
/-- isinstance(x, (T, ..)) -/
def dIsiT (tb : Ty → Ty → Option Bool) (cs : List Ty) (de : DE) (da : DA) : DE := fun S st => (de S st).then fun x st1 => (da S st1).then fun ys st2 => match tyA st2 x, toPs ys with
  | some t, some ps => bif okTy cs t && Nat.ble ps.length 1000000 then (match anyTy tb t ps with
    | some b => .ok (.v (.bl b) false) st2
    | none => .bad) else .bad
  | _, _ => .bad
theorem pea_isiT {W : WX} {e : Expr} {es : List Expr} {de : DE} {da : DA} {x1 : Nat} {p pos pos2 : Pos} (kit : KitOk c tb cs) (hm : X.mg "isinstance" = none) (he : PEA X c W e de) (ha : PAA X c W es da) (hK : c.K = X.K := by rfl) (hg : Gl X "isinstance" := by rfl)
    (hs : starEach [e, .Tuple es x1 pos2] X.env = (false, eval e X.env) :: starEach [.Tuple es x1 pos2] X.env := by rfl) (hpl : (backTo pos (starEach [.Tuple es x1 pos2] X.env)).any (·.1) = false := by rfl)
    (hs2 : starEach [.Tuple es x1 pos2] X.env = (false, eval (.Tuple es x1 pos2) X.env) :: starEach [] X.env := by rfl) : PEA X c W (.Call (.Name "isinstance" p) [e, .Tuple es x1 pos2] [] pos) (dIsiT tb cs de da) :=
  (pe_callB (r := rIsiTE c.K) (by rw [hK]; exact call_isiTE) hg hm (by decide +kernel) (pa_cons he (pa_cons (pe_tup ha) pa_nil hs2) hs) (by decide) (by decide) hs hpl).imp fun σ H Q ⟨F, m, s, S, hc, R, P⟩ =>
    ⟨F, m, s, S, hc, R, (PostE.bind P).imp fun v H1 ⟨m1, s1, x, _, a1, R1, r1, P1⟩ =>
      ⟨F, m1, s1, S, hc, R1, (PostE.bind P1).imp fun vs H2 ⟨m2, s2, ys, _, a2, R2, r2, P2⟩ => by
        cases e : tyA s2 x with
        | none => rw [e] at P2; exact P2.elim
        | some t =>
          cases e2 : toPs ys with
          | none => rw [e, e2] at P2; exact P2.elim
          | some ps =>
            rw [e, e2] at P2
            simp only at P2
            cases q : okTy cs t && Nat.ble ps.length 1000000 with
            | false => rw [q] at P2; exact P2.elim
            | true =>
              rw [q] at P2
              simp only [cond_true] at P2
              rw [Bool.and_eq_true] at q
              cases q2 : anyTy tb t ps with
              | none => rw [q2] at P2; exact P2.elim
              | some k =>
                rw [q2] at P2
                have rv := toPs_ok (AVls.zero r2) e2
                refine ⟨by rw [← Vls.length rv]; exact le_line q.2, fun tp hp => ?_⟩
                have sm := same_upd (o := .tup vs) hp
                rw [hc] at rv
                obtain ⟨us, h1, h2⟩ := anyTy_ok kit rv q2
                refine ⟨v, tp, vs, _, us, k, rfl, upd_same, h1, tyA_ok kit hc (R2.same sm) (AVal0.step ((a2.trans (Step.of sm))) r1.zero) e q.1, h2, P2 m2 _ _ (Step.of sm) (R2.same sm) (.v (.bl _) fun e => nomatch e)⟩⟩⟩
/-- a built-in class, an own class as a value -/
theorem pea_ty {W : WX} {x : Str} {pos : Pos} {n : String} (hm : X.mg x = none) (hv : bootBuiltins x = some (.type n)) (hg : Gl X x := by rfl) (hn : x ≠ "__name__" := by decide) (hd : (x == ("__debug__" : Str)) = false := by decide) : PEA X c W (.Name x pos) (dC (.ty n)) :=
  (pe_bltn (v := .ty n) hg hm hv rfl hn hd).imp fun _ _ _ => tC_ok fun _ _ => .ty n
theorem pea_cls {W : WX} {x : Str} {pos : Pos} {C : Nat} (hm : X.mg x = some (.ref (c.ca C))) (hg : Gl X x := by rfl) (hd : (x == ("__debug__" : Str)) = false := by decide) : PEA X c W (.Name x pos) (dC (.cls C)) :=
  (pe_glob (v := .ref (c.ca C)) hg hm rfl hd).imp fun _ _ _ => tC_ok fun _ _ => .cls C
end
end A

/-! The A-layer, part 8: the program's facts, the law's end. -/
namespace A
open PySem PySem.Spec PyProof.Rows L2

/-- what the whole proof leans on: the head's facts -/
structure PF (g : Gd) (fa : List He.Fa) (fn : List He.DefD) : Prop where
  c : He.SaysD fa fn g.c.K
  kin : g.c.K.In g.base
  ns : g.base.Ns mainGlobals g.mg
section
variable {g : Gd} {fa : List He.Fa} {fn : List He.DefD}
theorem PF.glo (T : PF g fa fn) (i : Nat) {x : Str} (h : fa[i]? = some (.glo x) := by rfl) : g.mg x = some (.ref (He.ga g.c.K x)) := He.glo_ok T.kin T.ns (T.c.fact i h)
theorem PF.free (T : PF g fa fn) (i : Nat) {x : Str} (h : fa[i]? = some (.free x) := by rfl) : g.mg x = none := He.free_ok T.kin T.ns (T.c.fact i h)
theorem PF.int (T : PF g fa fn) (i : Nat) {x : Str} {n : Int} (h : fa[i]? = some (.int x n) := by rfl) : ∃ u, g.mg x = some u ∧ RelV (.int n) u := by
  obtain ⟨t, e⟩ := He.int_ok T.kin T.ns (T.c.fact i h)
  exact ⟨_, e, t, rfl⟩
theorem PF.str (T : PF g fa fn) (i : Nat) {x z : Str} (h : fa[i]? = some (.str x z) := by rfl) : ∃ u, g.mg x = some u ∧ RelV (.str z) u := by
  obtain ⟨t, e⟩ := He.str_ok T.kin T.ns (T.c.fact i h)
  exact ⟨_, e, t, rfl⟩
end
theorem pea_globE {X : Cx} {c : Ct} {W : WX} {x : Str} {pos : Pos} {v : V} {p : PV} (h : ∃ u, X.mg x = some u ∧ RelV v u) (hv : ∀ L H, Val c L H p v) (hg : Gl X x := by rfl) (hd : (x == ("__debug__" : Str)) = false := by decide) : PEA X c W (.Name x pos) (dC p) := by
  obtain ⟨u, h1, h2⟩ := h
  exact pea_glob h1 h2 hv hg hd
/-- a pure def stands -/
theorem fnAtP {g : Gd} {x qual : Str} {st : Stmt} {f : Addr} {fd : FuncData} {names ps : List Str} {N n k : Nat} {d : DS} (FF : FunD g.c.K x qual (defArgs st) (defBody st) (defScope st) [] [] f fd) (sc : FnScope names ps (defScope st)) (hN : names.length = N) (hn : ps.length = n)
    (hb : ∀ (kV doc pm : Value) (an : Option Addr) (cdv ct : Value) (us : List Value), us.length = ps.length → bindArgs (PySem.W.fnOf x qual (defArgs st) (defBody st) (defScope st) .none kV doc pm an cdv ct) ⟨us, []⟩ = pure (ps.zip us))
    (body : ∀ e : Entry, Cg (XOf g names qual st f e) g → Takes (XOf g names qual st f e) (WOf e) → Room k (XOf g names qual st f e).A → PSsA (XOf g names qual st f e) g.c (WOf e) (defBody st) d) : FnAt g (k + 1) f n [] (spP g.c n (runP N d)) :=
  ⟨FF.kp, fd, ps, FF.bindsN hb, hn, fnP FF sc hN hn fun e hr => body e (cgOf sc) tkOf hr⟩
theorem fnAtI {g : Gd} {x qual : Str} {st : Stmt} {f : Addr} {fd : FuncData} {names ps : List Str} {N n k : Nat} {d : DS} (FF : FunD g.c.K x qual (defArgs st) (defBody st) (defScope st) [] [] f fd) (sc : FnScope names ps (defScope st)) (hN : names.length = N) (hn : ps.length = n)
    (hb : ∀ (kV doc pm : Value) (an : Option Addr) (cdv ct : Value) (us : List Value), us.length = ps.length → bindArgs (PySem.W.fnOf x qual (defArgs st) (defBody st) (defScope st) .none kV doc pm an cdv ct) ⟨us, []⟩ = pure (ps.zip us))
    (body : ∀ e : Entry, Cg (XOf g names qual st f e) g → Takes (XOf g names qual st f e) (WOf e) → Room k (XOf g names qual st f e).A → PSsA (XOf g names qual st f e) g.c (WOf e) (defBody st) d) : FnAt g (k + 1) f n [] (spI g.c n (runI N d)) :=
  ⟨FF.kp, fd, ps, FF.bindsN hb, hn, fnI FF sc hN hn fun e hr => body e (cgOf sc) tkOf hr⟩
/-- within a comprehension's block -/
theorem Cg.blk {X : Cx} {g : Gd} (h : Cg X g) {s : Shared} {H : Hp} {scope : Scope} {cenv : Env} {fp : List Addr} : Cg (X.blk s H scope cenv fp) g :=
  ⟨h.P, h.w, h.K, h.mg, h.base, h.calm, h.nd, PassesOwn.never, h.stk⟩
theorem Cn.blk {X : Cx} {c : Ct} (h : Cn X c) {s : Shared} {H : Hp} {scope : Scope} {cenv : Env} {fp : List Addr} : Cn (X.blk s H scope cenv fp) c :=
  ⟨h.K, h.calm, h.nd, PassesOwn.never, h.room, h.no, h.tree, h.stk⟩
theorem tk0 {X : Cx} : Takes X W0 := takes0

/-! ### the law's end -/
/-- nothing of the machinery is a list or an empty table -/
theorem noSeer_hid {h : Heap} {H : Hp} (nd : ∀ {b : Addr} {o : Obj}, h.get? b = some o → (∀ vs n, o.data ≠ .seq vs n) → o.data ≠ .fields #[] → H b = none) (nm : ∀ {b : Addr} {o : Obj}, h.get? b = some o → o.cls = .type "module" → H b = none) (no : h.NoSeer) : (hidT h H).NoSeer := by
  have nsK : ∀ {b : Addr} {m : Str → Option Value}, h.Ns b m → (hidT h H).Ns b m := fun {b m} ⟨o, es, ep, e, d, r⟩ => ⟨o, es, ep, hidT_get e (nd e (fun vs n z => by rw [d] at z; cases z) fun z => by rw [d] at z; cases z), d, r⟩
  refine ⟨?_, ?_, ?_, ?_⟩
  · obtain ⟨mc, a, b⟩ := no.statics; exact ⟨mc, nsK a, b⟩
  · obtain ⟨mc, a, b⟩ := no.mods; exact ⟨mc, nsK a, b⟩
  · obtain ⟨mc, a, b⟩ := no.imp; exact ⟨mc, nsK a, b⟩
  · obtain ⟨mg, bm, ob, a1, b1, c1, d1, e1⟩ := no.main
    exact ⟨mg, bm, ob, nsK a1, b1, hidT_get c1 (nm c1 d1), d1, e1⟩
/-- the law's call, where the promise may lean on NoSeer and on empty tables of code objects -/
theorem law_callST {P : Program} {w : World} {K : PySem.W.Frag} {mg mb : Str → Option Value} {CX : CXT} {k : Nat} {fa a : Addr} {cs : List (Addr × Addr)} {sp : Sp} {s₁ : Shared} {vs : List Value} {ns : List Int}
    (no : s₁.heap.NoSeer) (KX : K.In s₁.heap) (hns : s₁.heap.Ns mainGlobals mg) (hb : s₁.heap.Ns builtinsNs mb) (hbb : ∀ x : Str, x ≠ "__name__" → mb x = bootBuiltins x) (hlim : s₁.heap.NoLimit) (hg : s₁.gens = #[])
    (hT : ∀ p ∈ cs, s₁.heap.get? p.2 = some { cls := .none, data := .fields #[] }) (nT : ∀ p ∈ cs, K.lookup p.2 = none) (C : ∀ p ∈ cs, PySem.W.CodeHd s₁.heap p.1 p.2)
    (hbm : ∃ (bm : Addr) (ob : Obj), mg "__builtins__" = some (.ref bm) ∧ bm ≠ builtinsNs ∧ s₁.heap.get? bm = some ob ∧ ob.cls = .type "module" ∧ ob.dict = some builtinsNs ∧ ob.data = .plain)
    (ha : s₁.heap.get? a = some { cls := .type "list", data := .seq vs.toArray }) (hi : IntsAre vs ns) (hl : ns.length ≤ sizeLine) (hr : Room k callerA)
    (F : ∀ base : Heap, base.NoSeer → K.In base → base.Ns mainGlobals mg → (∀ p ∈ cs, LamX.TabB base mg p.1 p.2) → ∃ fd ps, Binds K fd ps [] ∧ ps.length = 1 ∧ FnOk P w K mg base CX k fa fd ps sp)
    (hsp : ∀ H : Hp, (∀ p ∈ cs, H p.2 = some (.tbl #[])) → ScrAt K H a ns → sp [.ref a] H (fun v _ => v = .bl true) fun _ _ _ => False)
    (hCX : ∀ H e s', CX [] H s₁ (fun _ _ _ => False) e s' → False) :
    codeAny (model P w) callerA (.call (.ref fa) ⟨[.ref a], []⟩) (fun r s' => r = .ok (.ret (.bool true)) ∧ OldK s₁.heap s'.heap ∧ s'.os = s₁.os ∧ AllBare s'.gens) s₁ := by
  have rv := vals_ints hi
  have lenV := hi.length
  have isT : ∀ b : Addr, b ∈ cs.map (·.2) → s₁.heap.get? b = some { cls := .none, data := .fields #[] } := fun b hb => by
    obtain ⟨p, hp, e⟩ := List.mem_map.mp hb
    exact e ▸ hT p hp
  have aT : a ∉ cs.map (·.2) := fun z => by
    have q := isT a z
    rw [ha] at q
    have z' : Data.seq vs.toArray _ = Data.fields #[] := congrArg Obj.data (Option.some.inj q)
    cases z'
  have memT : ∀ p ∈ cs, p.2 ∈ cs.map (·.2) := fun p hp => List.mem_map.mpr ⟨p, hp, rfl⟩
  have core : ∀ H : Hp, (∀ p ∈ cs, H p.2 = some (.tbl #[])) → (∀ b, H b = none ∨ b ∈ cs.map (·.2) ∨ ∃ o xs, H b = some (.frz o (.lst xs))) → ScrAt K H a ns → HOk P w H s₁.heap → (∀ b, H b ≠ none → b = a ∨ b ∈ cs.map (·.2)) → (H a ≠ none → K.lookup a = none) →
      codeAny (model P w) callerA (.call (.ref fa) ⟨[.ref a], []⟩) (fun r s' => r = .ok (.ret (.bool true)) ∧ OldK s₁.heap s'.heap ∧ s'.os = s₁.os ∧ AllBare s'.gens) s₁ := by
    intro H hH hO hS hok hA hK
    have noD : ∀ {b : Addr} {o : Obj}, s₁.heap.get? b = some o → (∀ vs n, o.data ≠ .seq vs n) → o.data ≠ .fields #[] → H b = none := fun {b o} e h1 h2 => by
      cases q : H b with
      | none => rfl
      | some u =>
        rcases hA b (by rw [q]; simp) with e' | e'
        · rw [e', ha] at e
          cases e
          exact (h1 _ _ rfl).elim
        · rw [isT b e'] at e
          cases e
          exact (h2 rfl).elim
    have noM : ∀ {b : Addr} {o : Obj}, s₁.heap.get? b = some o → o.cls = .type "module" → H b = none := fun {b o} e h1 => by
      cases q : H b with
      | none => rfl
      | some u =>
        rcases hA b (by rw [q]; simp) with e' | e'
        · rw [e', ha] at e
          cases e
          exact absurd h1 (by intro z; injection z with z; exact absurd z (by decide))
        · rw [isT b e'] at e
          cases e
          cases h1
    have nsK : ∀ {b : Addr} {m : Str → Option Value}, s₁.heap.Ns b m → (hidT s₁.heap H).Ns b m := fun {b m} ⟨o, es, ep, e, d, r⟩ => ⟨o, es, ep, hidT_get e (noD e (fun vs n z => by rw [d] at z; cases z) fun z => by rw [d] at z; cases z), d, r⟩
    have hKb : K.In (hidT s₁.heap H) := fun b o e => hidT_get (KX b o e) (by
      cases q : H b with
      | none => rfl
      | some u =>
        rcases hA b (by rw [q]; simp) with e' | e'
        · rw [e'] at e q
          rw [hK (by rw [q]; simp)] at e
          cases e
        · obtain ⟨p, hp, ep⟩ := List.mem_map.mp e'
          rw [← ep, nT p hp] at e
          cases e)
    have hM : Mod K mg (hidT s₁.heap H) := ⟨hKb, nsK hns, ⟨mb, nsK hb, hbb⟩, let ⟨mc, h1, h2⟩ := hlim; ⟨mc, nsK h1, h2⟩⟩
    have TB : ∀ p ∈ cs, LamX.TabB (hidT s₁.heap H) mg p.1 p.2 := fun p hp => by
      have hTp := hT p hp
      refine ⟨?_, ?_, fun z => ?_⟩
      · obtain ⟨o, us, file, tf, flags, tg, inF, text, tt, e1, r1, r2, r3, r4⟩ := C p hp
        refine ⟨o, us, file, tf, flags, tg, inF, text, tt, hidT_get e1 (noD e1 (fun vs n z => ?_) fun z => ?_), r1, r2, r3, r4⟩
        · rw [r2] at z; cases z
        · rw [r2] at z
          cases z
          simp at r3
      · obtain ⟨bm, ob, b1, b2, b3, b4, b5, b6⟩ := hbm
        have nG : bm ≠ mainGlobals := fun q => by
          obtain ⟨o, es, ep, e, hd, _⟩ := hns
          rw [q, e] at b3
          cases b3
          rw [hd] at b6
          cases b6
        have nP : bm ≠ p.2 := fun q => by
          rw [q, hTp] at b3
          cases b3
          cases b6
        exact ⟨bm, ob, b1, b2, nG, nP, hidT_get b3 (noD b3 (fun vs n z => by rw [b6] at z; cases z) fun z => by rw [b6] at z; cases z), b4, b5, b6⟩
      · obtain ⟨o, es, ep, e, hd, _⟩ := hns
        rw [z, hTp] at e
        cases e
        cases hd
    have e0 : Env0 P w K mg (hidT s₁.heap H) callerA [] s₁ H := ⟨rfl, hM, fun b o e => of_hidT e, Nat.le_of_eq (hidT_size _ _), trivial, fun b hb => absurd (show b ∈ ([] : List Addr) from hb) (by simp), hok, .of_eq hg⟩
    obtain ⟨fd, ps, hbi, hpl, FF⟩ := F _ (noSeer_hid noD noM no) hKb (nsK hns) TB
    match ps, hpl, hbi, FF with
    | [x], _, hbi, FF =>
    refine codeAny_mono (FF.run callerA [] s₁ H ⟨[.ref a], []⟩ [.ref a] [.ref a] _ _ hr e0 (hbi s₁ [.ref a] KX rfl) (.cons rfl .nil) (hsp H hH hS)) fun r s' h => ?_
    cases r with
    | error e => exact (hCX H e s' h).elim
    | ok fl =>
      cases fl with
      | next => exact False.elim h
      | brk => exact False.elim h
      | cont => exact False.elim h
      | ret u =>
        obtain ⟨v, H', os, bare, un, hok', r', q⟩ := h
        have q' : v = .bl true := q
        subst q'
        obtain rfl : u = Value.bool true := r'
        have key : ∀ b o, b ∉ cs.map (·.2) → s₁.heap.get? b = some o → s'.heap.get? b = some o := fun b o nb e => by
          cases q : H b with
          | none => exact un.keep b o e q (by intro z; exact absurd (show b ∈ ([] : List Addr) from z) (by simp)) (by simp)
          | some u =>
            rcases hO b with z | z | ⟨ob, xs, z⟩
            · rw [q] at z; cases z
            · exact absurd z nb
            · have z2 := un.frzs b ob _ z
              obtain ⟨e1, _⟩ := hok b _ z
              obtain ⟨e2, _⟩ := hok' b _ z2
              rw [e] at e1; cases e1
              exact e2
        have grown : ∀ p ∈ cs, ∃ more : Array Value, s'.heap.get? p.2 = some { cls := .none, data := .fields more } := fun p hp => by
          obtain ⟨more, z⟩ := un.tbls p.2 #[] (hH p hp)
          exact ⟨_, hok' p.2 _ z⟩
        refine ⟨rfl, ⟨fun b o e => ?_, fun b o e => ?_⟩, os, bare⟩
        · by_cases hb : b ∈ cs.map (·.2)
          · obtain ⟨p, hp, ep⟩ := List.mem_map.mp hb
            obtain ⟨more, hm⟩ := grown p hp
            rw [← ep] at e ⊢
            rw [hT p hp] at e
            cases e
            exact .inr (.inl ⟨((C p hp).tab (hT p hp)).isCodeTable, rfl, #[], more, rfl, by rw [Array.empty_append]; exact hm⟩)
          · exact .inl (key b o hb e)
        · by_cases hb : b ∈ cs.map (·.2)
          · obtain ⟨p, hp, ep⟩ := List.mem_map.mp hb
            obtain ⟨more, hm⟩ := grown p hp
            rw [← ep]
            exact ⟨_, hm⟩
          · exact ⟨o, key b o hb e⟩
  cases hk : K.lookup a with
  | some o =>
    have e := KX a o hk
    rw [ha] at e
    cases e
    refine core (fun b => if b ∈ cs.map (·.2) then some (.tbl #[]) else none) (fun p hp => if_pos (memT p hp)) (fun b => ?_) (.inr (.inr ⟨_, vs.toArray, _, hk, rfl, rfl, rfl, by rw [List.size_toArray, lenV]; exact hl, by simpa using rv⟩)) (fun b u z => ?_) (fun b z => ?_) fun z => absurd (show (if a ∈ cs.map (·.2) then some (HO.tbl #[]) else none) = none from if_neg aT) z
    · by_cases hb : b ∈ cs.map (·.2)
      · exact .inr (.inl hb)
      · exact .inl (if_neg hb)
    · by_cases hb : b ∈ cs.map (·.2)
      · have z' := (if_pos hb).symm.trans z
        cases z'
        exact isT b hb
      · have z' := (if_neg hb).symm.trans z
        cases z'
    · by_cases hb : b ∈ cs.map (·.2)
      · exact .inr hb
      · exact absurd (if_neg hb) z
  | none =>
    refine core (fun b => if b = a then some (.frz { cls := .type "list", data := .seq vs.toArray } (.lst (ns.map V.int))) else if b ∈ cs.map (·.2) then some (.tbl #[]) else none) (fun p hp => (if_neg (show ¬ p.2 = a from fun z => aT (by rw [← z]; exact memT p hp))).trans (if_pos (memT p hp))) (fun b => ?_)
      (.inl ⟨{ cls := .type "list", data := .seq vs.toArray }, if_pos rfl⟩) (fun b u z => ?_) (fun b z => ?_) fun _ => hk
    · by_cases hb : b = a
      · exact .inr (.inr ⟨_, _, if_pos hb⟩)
      · by_cases hb2 : b ∈ cs.map (·.2)
        · exact .inr (.inl hb2)
        · exact .inl ((if_neg hb).trans (if_neg hb2))
    · by_cases hb : b = a
      · have z' := (if_pos hb).symm.trans z
        cases z'
        rw [hb]
        exact ⟨ha, by rw [List.length_map]; exact hl, vs, _, rv, ha⟩
      · have z1 := (if_neg hb).symm.trans z
        by_cases hb2 : b ∈ cs.map (·.2)
        · have z' := (if_pos hb2).symm.trans z1
          cases z'
          exact isT b hb2
        · have z' := (if_neg hb2).symm.trans z1
          cases z'
    · by_cases hb : b = a
      · exact .inl hb
      · by_cases hb2 : b ∈ cs.map (·.2)
        · exact .inr hb2
        · exact absurd ((if_neg hb).trans (if_neg hb2)) z
/-- the law's promise from its denotation -/
theorem spP_law {c : Ct} {den : PDen} {a : Addr} {ns : List Int} {H : Hp} (hT : LamX.Tabs c.T H) (hS : ScrAt c.K H a ns) (h : ∃ fr, den [.scr ns] = .ok (.bl true) fr) : spP c 1 den [.ref a] H (fun v _ => v = .bl true) fun _ _ _ => False := by
  obtain ⟨fr, e⟩ := h
  refine ⟨rfl, fun _ => True, fun _ => True, [.scr ns], fun _ _ => trivial, hT, .cons (.scr (hS.imp (fun ⟨o, h⟩ => ⟨o, h, trivial⟩) id)) .nil, ?_⟩
  rw [e]
  intro v H' _ hv _
  cases hv
  rfl
/-- the tables at the head: empty, not among what is known -/
structure Tabs0 (c : Ct) (h : Heap) : Prop where
  empty : ∀ q ∈ c.TT, h.get? q.2.1 = some { cls := .none, data := .fields #[] }
  out : ∀ q ∈ c.TT, c.K.lookup q.2.1 = none
  code : ∀ q ∈ c.TT, PySem.W.CodeHd h q.1 q.2.1
theorem walk_ofS {l : PySem.W.OpenLaw} {n k : Nat} {q : Program} {loose : List Str} {XP : (Str → Option Value) → Heap → Prop} {YP : World → Heap → Prop} {d : DefRec} {den : PDen}
    (hn : l.most = some n) (hn2 : n ≤ sizeLine) (hdf : d.params.defaults = []) (hr : Room k callerA) (hi : importsNone q = true) (ht : l.prog.given.tree = none)
    (hden : ∀ ns : List Int, ns.length ≤ n → ∃ fr, den [.scr ns] = .ok (.bl true) fr)
    (F : ∀ (w : World) (mg : Str → Option Value) (fa : Addr) (h : Heap), YP w h → h.Ns mainGlobals mg → mg d.name = some (.ref fa) →
      ∃ c : Ct, c.K.In h ∧ Tabs0 c h ∧ ∀ (base : Heap) (no : base.NoSeer) (tb : ∀ q ∈ c.TT, LamX.TabB base mg q.1 q.2.1), c.K.In base → base.Ns mainGlobals mg → FnAt (⟨l.prog, w, c, mg, base, no, ht, tb⟩ : Gd) k fa 1 [] (spP c 1 den)) :
    PySem.W.WalkO q loose XP YP l.row.toRowW d [] (fun f vs => PySem.call f vs) := by
  refine Att.attach_call hn hdf fun w s₀ s₁ mg mb fa o pm cd doc a vs ns G Y ho hd hcd hmg hobj hints hlen hg => ?_
  obtain ⟨c, KX, T0, hF⟩ := F w mg fa _ Y G.T.g hmg
  have mem : ∀ {p : Addr × Addr}, p ∈ c.TT.map (fun q => (q.1, q.2.1)) → ∃ q ∈ c.TT, p = (q.1, q.2.1) := fun {p} h => by
    obtain ⟨q, hq, e⟩ := List.mem_map.mp h
    exact ⟨q, hq, e.symm⟩
  refine law_callST (CX := L2.CX l.prog w) (sp := spP c 1 den) (k := k) (K := c.K) (cs := c.TT.map fun q => (q.1, q.2.1)) (G.T.seer hi) KX G.T.g G.T.b G.T.builtins G.T.nolimit hg
    (fun p hp => by obtain ⟨q, hq, rfl⟩ := mem hp; exact T0.empty q hq) (fun p hp => by obtain ⟨q, hq, rfl⟩ := mem hp; exact T0.out q hq) (fun p hp => by obtain ⟨q, hq, rfl⟩ := mem hp; exact T0.code q hq) G.T.bmain hobj hints (Nat.le_trans hlen hn2) hr (fun base no kb nb TB => by
    obtain ⟨_, fd, ps, hb, hl, h⟩ := hF base no (fun q hq => TB (q.1, q.2.1) (List.mem_map.mpr ⟨q, hq, rfl⟩)) kb nb
    exact ⟨fd, ps, hb, hl, h⟩) (fun H hH hS => spP_law (fun p hp => by
      obtain ⟨q, hq, e⟩ := List.mem_map.mp (show p ∈ c.TT.map (fun q => (q.2.1, q.2.2)) from hp)
      rw [← e]
      exact LamX.TabS.nil (hH (q.1, q.2.1) (List.mem_map.mpr ⟨q, hq, rfl⟩))) hS (hden ns hlen)) fun H e s' h => ?_
  obtain ⟨_, _, _, _, _, _, _, _, _, _, _, _, h⟩ := h
  exact h
end A
namespace A
open PySem PySem.Spec PyProof.Rows L2
section
variable {X : Cx} {c : Ct}
theorem op_eqC (cn : Cn X c) : OpR X (compareOp .Eq) (rEqD X.K) := op_eqD (by have := cn.room.un; omega)
theorem op_neC (cn : Cn X c) : OpR X (compareOp .NotEq) (rNeD X.K) := op_neD (by have := cn.room.un; omega)
theorem op_inC (cn : Cn X c) : OpR X (compareOp .In) (rInD X.K) := op_inD (by have := cn.room.un; omega)
theorem op_notInC (cn : Cn X c) : OpR X (compareOp .NotIn) (rNotInD X.K) := op_notInD (by have := cn.room.un; omega)
theorem call_max2C (cn : Cn X c) : CallR X (.builtin "max") (fun xs H Q => ∃ i j, xs = [.int i, .int j] ∧ Q (.int (if j > i then j else i)) H) := call_max2 cn.calm
theorem call_min2C (cn : Cn X c) : CallR X (.builtin "min") (fun xs H Q => ∃ i j, xs = [.int i, .int j] ∧ Q (.int (if j < i then j else i)) H) := call_min2 cn.calm
theorem cr_sumC (cn : Cn X c) : CallR X (.builtin "sum") (rSum X.K) := cr_sum cn.calm
theorem cr_maxC (cn : Cn X c) : CallR X (.builtin "max") (rMax X.K) := cr_max cn.calm
theorem cr_minC (cn : Cn X c) : CallR X (.builtin "min") (rMin X.K) := cr_min cn.calm
theorem pga_nameC {x : Str} {i : Nat} {pos : Pos} (cn : Cn X c) (hi : X.N[i]? = some x := by rfl) (hx : Loc X.env.scope x := by first | exact Or.inl rfl | exact Or.inr rfl) (hf : X.fn x = true ∨ X.env.scope.names.lookup x = some .local := by first | exact .inl rfl | exact .inr rfl) : PGA X c [i] (.Name x pos) (gN i) := pga_name cn.nd hi hx hf
end
/-- a measure of a while: an int's size -/
def natSlot (i : Nat) : Slots → Store → Nat := fun S _ => match S[i]? with
  | some (some (.v (.int k) _)) => k.natAbs + 1
  | _ => 0
end A

/-! The A-layer, part 9: lists of the store walked, changed; parallel and augmented assignment. -/
namespace A
open PySem PySem.Spec PyProof.Rows L2

/-! ### either of two readings -/
theorem _root_.L2.PS.or {X : Cx} {e : Stmt} {t t' : TS} (h : PS X e t) (h' : PS X e t') : PS X e fun D σ H => t D σ H ∨ t' D σ H := ⟨fun pins s σ H D I hw => hw.elim (h.run pins s σ H D I) (h'.run pins s σ H D I)⟩
theorem _root_.L2.PE.or {X : Cx} {e : Expr} {t t' : TE} (h : PE X e t) (h' : PE X e t') : PE X e fun σ H Q => t σ H Q ∨ t' σ H Q := ⟨fun pins s σ H Q I hw => hw.elim (h.run pins s σ H Q I) (h'.run pins s σ H Q I)⟩

/-! ### a place of the store as a list -/
def lstAt (st : Store) (n : Nat) : Option (List AV) := match st[n]? with
  | some (.lst xs) => some xs
  | _ => none
section
variable {F : Fix} {m : Nat → Addr} {N : Nat} {H : Hp} {S : Slots} {σ : St} {st : Store} {c : Ct}
theorem lstAt_ok (R : Rel F m st S σ H) {n : Nat} {xs : List AV} (e : lstAt st n = some xs) : n < st.length ∧ ∃ vs, H (m n) = some (.lst vs) ∧ AVls0 F m st.length H xs vs := by
  unfold lstAt at e
  split at e
  · rename_i ys h
    cases e
    obtain ⟨u, h1, h2⟩ := R.sto n _ h
    cases h2 with
    | lst h2 => exact ⟨(List.getElem?_eq_some_iff.mp h).1, _, h1, h2⟩
  · cases e
theorem pairedGet {α β : Type} {P : α → β → Prop} : ∀ {xs : List α} {vs : List β} {i : Nat} {x : α}, Paired P xs vs → xs[i]? = some x → ∃ v, vs[i]? = some v ∧ P x v
  | _, _, i, x, .cons h r, e => by
    cases i with
    | zero => cases e; exact ⟨_, rfl, h⟩
    | succ i => exact pairedGet (i := i) r e
theorem pairedSet {α β : Type} {P : α → β → Prop} {x : α} {v : β} (h : P x v) : ∀ (n : Nat) {xs : List α} {vs : List β}, Paired P xs vs → Paired P (xs.set n x) (vs.set n v)
  | _, _, _, .nil => .nil
  | 0, _, _, .cons _ r => .cons h r
  | n + 1, _, _, .cons a r => .cons a (pairedSet h n r)
theorem pairedErase {α β : Type} {P : α → β → Prop} : ∀ (n : Nat) {xs : List α} {vs : List β}, Paired P xs vs → Paired P (xs.eraseIdx n) (vs.eraseIdx n)
  | _, _, _, .nil => .nil
  | 0, _, _, .cons _ r => r
  | n + 1, _, _, .cons a r => .cons a (pairedErase n r)
theorem pairedRev {α β : Type} {P : α → β → Prop} : ∀ {xs : List α} {vs : List β}, Paired P xs vs → Paired P xs.reverse vs.reverse
  | _, _, .nil => .nil
  | _, _, .cons a r => by
    rw [List.reverse_cons, List.reverse_cons]
    exact pairedAppend (pairedRev r) (.cons a .nil)
theorem AVal0.strip0 {x : AV} {v : V} (h : AVal0 F m N H x v) : AVal0 F m N H (A.strip x) v := h.strip.zero
end

/-! ### for over a list of the store -/
section
variable {X : Cx} {c : Ct} {W : WX} {pos : Pos}
def forR (n : Nat) (tg : DG) (b : DS) : Nat → Nat → DS
  | 0, _, _, _ => .bad
  | k + 1, i, S, st => match lstAt st n with
    | none => .bad
    | some xs => match xs[i]? with
      | none => .nx S st
      | some x => match tg (A.strip x) S with
        | none => .bad
        | some S1 => match b S1 st with
          | .nx S' st' => forR n tg b k (i + 1) S' st'
          | .ct S' st' => forR n tg b k (i + 1) S' st'
          | .bk S' st' => .nx S' st'
          | r => r
/-- how many turns at most -/
def turnsAt (st : Store) (n : Nat) : Nat := match lstAt st n with
  | some xs => xs.length + 1
  | none => 0
def dForE (de : DE) (tg : DG) (b : DS) : DS := fun S st => (de S st).flow S fun x st1 => match x with
  | .ref n => forR n tg b (turnsAt st1 n) 0 S st1
  | .v p fr => match itemsV (.v p fr) with
    | some xs => forL tg b xs S st1
    | none => .bad
theorem psa_forE (cn : Cn X c) {is : List Nat} {tg iter : Expr} {body : List Stmt} {de : DE} {dg : DG} {db : DS} (he : PEA X c W iter de) (hg : PGA X c is tg dg) (hb : PSsA X c W body db)
    (hs : ∀ x, foldedSetIterable iter X.env x = pure x := by intro _; rfl) : PSA X c W (.For tg iter body [] pos) (dForE de dg db) := by
  refine ((psa_for cn (pia_seq cn.K he) hg hb hs).or (ps_for cn.pas cn.calm (pi_list he) hg hb hs)).imp fun D σ H ⟨F, m, s, S, hc, R, P⟩ => ?_
  cases e : de S s with
  | ex x st1 => refine .inl ⟨F, m, s, S, hc, R, ?_⟩; unfold dFor dItem; unfold dForE at P; rw [e] at P ⊢; exact P
  | bad => unfold dForE at P; rw [e] at P; exact P.elim
  | ok x st1 =>
    cases x with
    | v p fr =>
      refine .inl ⟨F, m, s, S, hc, R, ?_⟩
      unfold dFor dItem; unfold dForE at P; rw [e] at P ⊢
      have P : PostS W F m s.length H (match itemsV (.v p fr) with
        | some xs => forL dg db xs S st1
        | none => .bad) D := P
      cases q : itemsV (.v p fr) with
      | none => rw [q] at P; exact P.elim
      | some xs => rw [q] at P; simp only [Res.then, Res.flow, q]; exact P
    | ref n =>
      refine .inr ⟨F, m, s, S, hc, R, ?_⟩
      rw [e]
      unfold dForE at P; rw [e] at P
      have P : PostS W F m s.length H (forR n dg db (turnsAt st1 n) 0 S st1) D := P
      intro m1 v H1 a1 R1 r1
      cases r1 with
      | ref hn =>
      have P1 := PostS.shift a1 P
      -- the list stands at the start
      have hl : ∃ xs, lstAt st1 n = some xs := by
        cases q : lstAt st1 n with
        | some xs => exact ⟨xs, rfl⟩
        | none => unfold turnsAt at P1; rw [q] at P1; exact P1.elim
      obtain ⟨xs, el⟩ := hl
      obtain ⟨_, vs, hv, _⟩ := lstAt_ok R1 el
      refine ⟨m1 n, rfl, ⟨vs, SqL.of hv⟩, ?_⟩
      refine ⟨fun i k σ H => ∃ m st S, Rel F m st S σ H ∧ n < st.length ∧ m n = m1 n ∧ PostS W F m st.length H (forR n dg db k i S st) D, ⟨turnsAt st1 n, m1, st1, S, R1, hn, rfl, P1⟩, ?_⟩
      rintro i k σ2 H2 ⟨m2, s2, S2, R2, hn2, em, P2⟩
      cases k with
      | zero => exact P2.elim
      | succ k =>
        unfold forR at P2
        cases q : lstAt s2 n with
        | none => rw [q] at P2; exact P2.elim
        | some ys =>
          rw [q] at P2
          obtain ⟨_, us, hu, ru⟩ := lstAt_ok R2 q
          rw [em] at hu
          simp only at P2
          cases q2 : ys[i]? with
          | none =>
            rw [q2] at P2
            refine .inl ⟨⟨us, SqL.of hu, ?_⟩, P2 m2 σ2 H2 Step.refl R2⟩
            rw [← Paired.length ru]
            exact List.getElem?_eq_none_iff.mp q2
          | some x =>
            rw [q2] at P2
            obtain ⟨v, ev, rv⟩ := pairedGet ru q2
            refine .inr ⟨⟨us, v, SqL.of hu, ev⟩, fun σ' H' => ∃ m st S, Rel F m st S σ' H' ∧ n < st.length ∧ m n = m1 n ∧ PostS W F m st.length H' (forR n dg db k (i + 1) S st) D, fun σ' H' q => ⟨k, Nat.lt_succ_self k, q⟩, fun v' H3 y => ?_⟩
            obtain ⟨rfl, y⟩ := y
            have := y us (SqL.of hu)
            rw [ev] at this; cases this
            refine ⟨F, m2, s2, S2, A.strip x, hc, R2, rv.strip, ?_⟩
            simp only at P2
            cases q3 : dg (A.strip x) S2 with
            | none => rw [q3] at P2; exact P2
            | some S4 =>
              rw [q3] at P2
              refine fun σ4 R4 _ => ⟨F, m2, s2, S4, hc, R4, ?_⟩
              have nx : ∀ {S' : Slots} {st' : Store}, PostS W F m2 s2.length H3 (forR n dg db k (i + 1) S' st') D → ∀ m' σ' H', Step m2 s2.length H3 m' st'.length H' → Rel F m' st' S' σ' H' → ∃ m st S, Rel F m st S σ' H' ∧ n < st.length ∧ m n = m1 n ∧ PostS W F m st.length H' (forR n dg db k (i + 1) S st) D :=
                fun {S' st'} P m' σ' H' a b => ⟨m', st', S', b, Nat.lt_of_lt_of_le hn2 a.le, (a.same n hn2).trans em, PostS.shift a P⟩
              simp only at P2
              cases e : db S4 s2 with
              | nx S' st' => rw [e] at P2; exact nx P2
              | ct S' st' => rw [e] at P2; exact nx P2
              | bk S' st' => rw [e] at P2; exact P2
              | rt x st' => rw [e] at P2; exact P2
              | ex x S' st' => rw [e] at P2; exact P2
              | bad => rw [e] at P2; exact P2
end

/-! ### a comprehension over a list of the store -/
def compR (n : Nat) (tg : DG) (t : DT) (e : DE) (S0 : Slots) : Nat → Nat → Store → Res (List AV)
  | 0, _, _ => .bad
  | k + 1, i, st => match lstAt st n with
    | none => .bad
    | some xs => match xs[i]? with
      | none => .ok [] st
      | some x => match tg (A.strip x) S0 with
        | none => .bad
        | some S1 => (t S1 st).then fun b st1 => bif b then (e S1 st1).then fun y st2 => (compR n tg t e S0 k (i + 1) st2).then fun ys st3 => .ok (y :: ys) st3 else compR n tg t e S0 k (i + 1) st1
def dCompE (r : Bool) (vs : List Nat) (di : DE) (tg : DG) (t : DT) (e : DE) : DE := fun S st => (di S st).then fun x st1 => match x with
  | .ref n => (noEx (compR n tg t e (wipeS S vs) (turnsAt st1 n) 0 st1)).then fun ys st2 => bif Nat.ble ys.length 1000000 then newL r ys st2 else .bad
  | .v p fr => match itemsV (.v p fr) with
    | some xs => (noEx (compL tg t e (wipeS S vs) xs st1)).then fun ys st2 => bif Nat.ble ys.length 1000000 then newL r ys st2 else .bad
    | none => .bad
section
variable {X : Cx} {c : Ct} {W : WX}
theorem comp_okR (r : Bool) {K : PySem.W.Frag} {vs is : List Nat} {di : DE} {dg : DG} {dt : DT} {de : DE} (his : ∀ i ∈ is, i ∈ vs) {F : Fix} {m : Nat → Addr} {s : Store} {S : Slots} {σ : St} {H : Hp} {Q : VK} (hc : F.c = c) (R : Rel F m s S σ H) {n : Nat} {st1 : Store} (e0 : di S s = .ok (.ref n) st1)
    (P : PostE rV W F m s.length H S σ ((noEx (compR n dg dt de (wipeS S vs) (turnsAt st1 n) 0 st1)).then fun ys st2 => bif Nat.ble ys.length 1000000 then newL r ys st2 else .bad) Q) : tLc (iList K (tG rV c W di)) (tgG c is dg) (tG rB c W0 dt) (tG rV c W0 de) vs σ H Q := by
  refine ⟨F, m, s, S, hc, R, ?_⟩
  rw [e0]
  intro m1 v H1 a1 R1 r1
  cases r1 with
  | ref hn =>
  have P1 := PostE.shift a1 P
  obtain ⟨xs, el⟩ : ∃ xs, lstAt st1 n = some xs := by
    cases q : lstAt st1 n with
    | some xs => exact ⟨xs, rfl⟩
    | none => unfold turnsAt at P1; rw [q] at P1; exact P1.elim
  obtain ⟨_, vs0, hv, _⟩ := lstAt_ok R1 el
  refine ⟨m1 n, rfl, ⟨vs0, SqL.of hv⟩, fun D hD => ?_⟩
  obtain ⟨tot, sF, eF⟩ : ∃ tot sF, compR n dg dt de (wipeS S vs) (turnsAt st1 n) 0 st1 = .ok tot sF := by
    cases e : compR n dg dt de (wipeS S vs) (turnsAt st1 n) 0 st1 with
    | ok tot sF => exact ⟨tot, sF, rfl⟩
    | ex x st => rw [e] at P1; exact P1.elim
    | bad => rw [e] at P1; exact P1.elim
  rw [eF] at P1
  have P1 : PostE rV W F m1 st1.length H1 S σ (bif Nat.ble tot.length 1000000 then newL r tot sF else .bad) Q := P1
  cases hb : Nat.ble tot.length 1000000 with
  | false => rw [hb] at P1; exact P1.elim
  | true =>
  rw [hb] at P1
  simp only [cond_true] at P1
  have h0 : F.H0 D = none := R1.h0 hD
  have hz : ¬ F.Z D := fun z => (R1.zd D z).1 hD
  have nD := R1.nb hD
  have line : tot.length ≤ 1000000 := Nat.le_of_ble_eq_true hb
  let Inv : Nat → Nat → Hp → Prop := fun i k H => ∃ m st accs acc ys, Step m1 st1.length H1 m st.length H ∧ Rel (F.av D) m st S σ H ∧ n < st.length ∧ m n = m1 n ∧ H D = some (.lst acc) ∧ AVls0 (F.av D) m st.length H accs acc ∧
    compR n dg dt de (wipeS S vs) k i st = .ok ys sF ∧ tot = accs ++ ys
  refine ⟨fun i k H => Inv i k H, ⟨turnsAt st1 n, m1, st1, [], [], tot, Step.of (same_upd hD), R1.av hD (same_upd hD) (by rw [upd_same]; simp), hn, rfl, upd_same, .nil, eF, rfl⟩, ?_⟩
  rintro i k H2 ⟨m2, s2, accs, acc, ys, st2, R2, hn2, em, hD2, ra, ec, et⟩
  cases k with
  | zero => cases ec
  | succ k =>
  unfold compR at ec
  cases ql : lstAt s2 n with
  | none => rw [ql] at ec; cases ec
  | some zs =>
  rw [ql] at ec
  simp only at ec
  obtain ⟨_, us, hu, ru⟩ := lstAt_ok R2 ql
  rw [em] at hu
  cases qx : zs[i]? with
  | some x =>
    rw [qx] at ec
    simp only at ec
    obtain ⟨v, ev, rv⟩ := pairedGet ru qx
    refine .inr ⟨⟨us, v, SqL.of hu, ev⟩, Inv (i + 1) k, fun H' q => ⟨k, Nat.lt_succ_self k, q⟩, fun v' H3 y => ?_⟩
    obtain ⟨rfl, y⟩ := y
    have := y us (SqL.of hu)
    rw [ev] at this; cases this
    refine ⟨F.av D, m2, s2, wipeS S vs, A.strip x, hc, R2.wipe vs, rv.strip, ?_⟩
    cases q : dg (A.strip x) (wipeS S vs) with
    | none => rw [q] at ec; cases ec
    | some S4 =>
      rw [q] at ec
      simp only at ec
      refine fun σ4 R4 o4 => ⟨wipe_same o4 his, F.av D, m2, s2, S4, hc, R4, ?_⟩
      cases q2 : dt S4 s2 with
      | ex x st => rw [q2] at ec; cases ec
      | bad => rw [q2] at ec; cases ec
      | ok kk st4 =>
        rw [q2] at ec
        refine fun m5 k' H5 a5 R5 r5 => ?_
        have r5 : kk = k' := r5
        subst r5
        have ec : (bif kk then (de S4 st4).then fun y st2 => (compR n dg dt de (wipeS S vs) k (i + 1) st2).then fun ys st3 => .ok (y :: ys) st3 else compR n dg dt de (wipeS S vs) k (i + 1) st4) = .ok ys sF := ec
        have base : ∀ {m' : Nat → Addr} {st' : Store} {σ' : St} {S' : Slots} {H' : Hp}, Step m2 s2.length H3 m' st'.length H' → Rel (F.av D) m' st' S' σ' H' → Rel (F.av D) m' st' S σ H' := fun {m' st' σ' S' H'} a R' => R'.slots R2.len fun j x e => by
          obtain ⟨v, h1, h2⟩ := R2.slo j x e
          exact ⟨v, h1, AVal.step a h2⟩
        have keepD : ∀ {m' : Nat → Addr} {N' : Nat} {H' : Hp}, Step m2 s2.length H3 m' N' H' → H' D = some (.lst acc) := fun a => a.keep D _ hD2 (R2.zd D (.inr rfl)).2 rfl
        cases kk with
        | false =>
          refine iteF ?_
          exact ⟨m5, st4, accs, acc, ys, st2.trans a5, base a5 R5, Nat.lt_of_lt_of_le hn2 a5.le, (a5.same n hn2).trans em, keepD a5, AVls0.step a5 ra, ec, et⟩
        | true =>
          refine iteT ?_
          simp only [cond_true] at ec
          refine ⟨F.av D, m5, st4, S4, hc, R5, ?_⟩
          cases q3 : de S4 st4 with
          | ex x st => rw [q3] at ec; cases ec
          | bad => rw [q3] at ec; cases ec
          | ok y st5 =>
            rw [q3] at ec
            refine fun m6 u H6 a6 R6 r6 => ?_
            have a26 := a5.trans a6
            have ec : ((compR n dg dt de (wipeS S vs) k (i + 1) st5).then fun ys st3 => .ok (y :: ys) st3) = .ok ys sF := ec
            cases q4 : compR n dg dt de (wipeS S vs) k (i + 1) st5 with
            | ex x st => rw [q4] at ec; cases ec
            | bad => rw [q4] at ec; cases ec
            | ok ys' st6 =>
              rw [q4] at ec
              have ec : Res.ok (y :: ys') st6 = .ok ys sF := ec
              cases ec
              have hD6 := keepD a26
              have rb := base a26 R6
              obtain ⟨Z1, Z2, Z3⟩ := Rel.zset (acc' := acc ++ [u]) rb (.inr rfl) h0 hD6
              have la : acc.length = accs.length := (Paired.length ra).symm
              have lt : tot.length = accs.length + (ys'.length + 1) := by rw [et]; simp
              exact ⟨acc, hD6, by rw [la]; exact Nat.lt_of_lt_of_le (show accs.length < 1000001 by omega) (by decide), m6, st5, accs ++ [y], acc ++ [u], ys', (st2.trans a26).over hD nD, Z1, Nat.lt_of_lt_of_le hn2 a26.le, (a26.same n hn2).trans em, upd_same, pairedAppend (Z3 (AVls0.step a26 ra)) (Z3 (.cons r6.zero .nil)), q4, by rw [et]; simp⟩
  | none =>
    rw [qx] at ec
    have ec : Res.ok [] s2 = .ok ys sF := ec
    cases ec
    rw [List.append_nil] at et
    subst et
    refine .inl ⟨⟨us, SqL.of hu, by rw [← Paired.length ru]; exact List.getElem?_eq_none_iff.mp qx⟩, ?_⟩
    unfold newL at P1
    cases r with
    | false =>
      simp only [cond_false] at P1
      cases e : toPs tot with
      | none => rw [e] at P1; exact P1.elim
      | some ps =>
        rw [e] at P1
        have rv := toPs_ok ra e
        refine P1 m2 _ H2 st2 R2.unav (.v (.lst hD2 ?_ (Vls.ground (fun t b l _ => ⟨l.1, fun z => l.2.1 (.inl z), l.2.2⟩) rv)) fun _ => ⟨true, ps, D, acc, rfl, rfl, h0, hD2, Vls.unav rv⟩)
        exact lw_true.mpr ⟨F.hA D h0, hz, (R2.zd D (.inr rfl)).2⟩
    | true =>
      simp only [cond_true] at P1
      obtain ⟨m', h1, h2, R'⟩ := Rel.adopt R2 hD2 h0 hz ra
      have := P1 m' (.ref (m' sF.length)) H2 ⟨by have := st2.le; simp; omega, fun i hi => (h1 i (Nat.lt_of_lt_of_le hi st2.le)).trans (st2.same i hi), fun i h3 h4 => ?_, st2.keep, st2.dom, st2.imm⟩ R' (.ref (by simp))
      · rw [h2] at this; exact this
      · have hl : (sF ++ [AO.lst (tot.map A.strip)]).length = sF.length + 1 := by simp
        rw [hl] at h4
        by_cases q : i < sF.length
        · rw [h1 i q]; exact st2.new i h3 q
        · have : i = sF.length := by omega
          subst this; rw [h2]; exact hD
theorem compE_ok (r : Bool) {K : PySem.W.Frag} {vs is : List Nat} {di : DE} {dg : DG} {dt : DT} {de : DE} (his : ∀ i ∈ is, i ∈ vs) {σ : St} {H : Hp} {Q : VK} :
    tG rV c W (dCompE r vs di dg dt de) σ H Q → tLc (tI c W (dItem di)) (tgG c is dg) (tG rB c W0 dt) (tG rV c W0 de) vs σ H Q ∨ tLc (iList K (tG rV c W di)) (tgG c is dg) (tG rB c W0 dt) (tG rV c W0 de) vs σ H Q := fun ⟨F, m, s, S, hc, R, P⟩ => by
  unfold dCompE at P
  cases e : di S s with
  | ex x st1 => rw [e] at P; exact .inl (comp_ok r his ⟨F, m, s, S, hc, R, by unfold dComp dItem; rw [e]; exact P⟩)
  | bad => rw [e] at P; exact P.elim
  | ok x st1 =>
    rw [e] at P
    cases x with
    | v p fr =>
      refine .inl (comp_ok r his ⟨F, m, s, S, hc, R, ?_⟩)
      unfold dComp dItem; rw [e]
      simp only [Res.then] at P ⊢
      cases q : itemsV (.v p fr) with
      | none => rw [q] at P; exact P.elim
      | some xs => rw [q] at P; exact P
    | ref n => exact .inr (comp_okR r his hc R e P)
theorem pea_compE (r : Bool) {elt tg iter : Expr} {ifs : List Expr} {scope : Scope} {own : List (Str × Nat)} {is : List Nat} {pos : Pos} {di : DE} {dg : DG} {dt : DT} {de : DE} (cn : Cn X c) (hi : PEA X c W iter di) (ok : BlkOk X.N X.env.scope scope own) (his : ∀ i ∈ is, i ∈ own.map (·.2))
    (hg : ∀ (s : Shared) (H : Hp) (C : Addr) (cl : List (Str × Addr)) (fp : List Addr), PGA (X.blk s H scope (compEnvC scope cl C X.env) fp) c is tg dg) (ht : ∀ (s : Shared) (H : Hp) (C : Addr) (cl : List (Str × Addr)) (fp : List Addr), PTsA (X.blk s H scope (compEnvC scope cl C X.env) fp) c W0 ifs dt)
    (he : ∀ (s : Shared) (H : Hp) (C : Addr) (cl : List (Str × Addr)) (fp : List Addr), PEA (X.blk s H scope (compEnvC scope cl C X.env) fp) c W0 elt de) (hs : ∀ x, foldedSetIterable iter X.env x = pure x := by intro _; rfl) :
    PEA X c W (.ListComp elt [⟨tg, iter, ifs, 0⟩] scope pos) (dCompE r (own.map (·.2)) di dg dt de) := ((pe_lc cn.calm cn.nd (pia_seq cn.K hi) ok hg ht he hs).or (pe_lc cn.calm cn.nd (pi_list hi) ok hg ht he hs)).imp fun _ _ _ => compE_ok r his
theorem psa_setLcE (r : Bool) {i : Nat} {y : Str} {py spos : Pos} {elt tg iter : Expr} {ifs : List Expr} {scope : Scope} {own : List (Str × Nat)} {is : List Nat} {pos : Pos} {di : DE} {dg : DG} {dt : DT} {de : DE} (cn : Cn X c) (hi : PEA X c W iter di) (ok : BlkOk X.N X.env.scope scope own) (his : ∀ i ∈ is, i ∈ own.map (·.2))
    (hg : ∀ (s : Shared) (H : Hp) (C : Addr) (cl : List (Str × Addr)) (fp : List Addr), PGA (X.blk s H scope (compEnvC scope cl C X.env) fp) c is tg dg) (ht : ∀ (s : Shared) (H : Hp) (C : Addr) (cl : List (Str × Addr)) (fp : List Addr), PTsA (X.blk s H scope (compEnvC scope cl C X.env) fp) c W0 ifs dt)
    (he : ∀ (s : Shared) (H : Hp) (C : Addr) (cl : List (Str × Addr)) (fp : List Addr), PEA (X.blk s H scope (compEnvC scope cl C X.env) fp) c W0 elt de)
    (hsw : swapsWith (.ListComp elt [⟨tg, iter, ifs, 0⟩] scope pos) (some (.Name y py)) spos.line X.env = pure true) (hy : X.N[i]? = some y := by rfl) (hyl : X.env.scope.names.lookup y = some .local := by rfl) (hs : ∀ x, foldedSetIterable iter X.env x = pure x := by intro _; rfl) :
    PSA X c W (.Assign [.Name y py] (.ListComp elt [⟨tg, iter, ifs, 0⟩] scope pos) spos) (dSet i (dCompE r (own.map (·.2)) di dg dt de)) :=
  ((ps_setLc cn.calm cn.nd hy hyl hsw (pia_seq cn.K hi) ok hg ht he hs).or (ps_setLc cn.calm cn.nd hy hyl hsw (pi_list hi) ok hg ht he hs)).imp fun D σ H ⟨F, m, s, S, hc, R, P⟩ =>
  compE_ok r his ⟨F, m, s, S, hc, R, (PostS.bind P).imp fun v H1 ⟨m1, st1, x, _, a, b, rx, P1⟩ => P1 m1 _ H1 Step.refl (b.slot rx)⟩
end
end A

/-! The A-layer, part 10: list methods, stored items, augmented and parallel assignment, steps of ranges. -/
namespace A
open PySem PySem.Spec PyProof.Rows L2

/-! ### methods of lists -/
def isLst (st : Store) : AV → Bool
  | .v (.lst _ _) _ => true
  | .v (.scr _) _ => true
  | .ref n => (lstAt st n).isSome
  | _ => false
def dMeth (f : AV → List AV → Store → Res AV) (de : DE) (da : DA) : DE := fun S st => (de S st).then fun x st1 => bif isLst st1 x then (da S st1).then fun xs st2 => f x xs st2 else .bad
def dMeth0 (f : AV → List AV → Store → Res AV) (de : DE) : DE := fun S st => (de S st).then fun x st1 => bif isLst st1 x then f x [] st1 else .bad
def MRok (c : Ct) (r : V → List V → Hp → VK → Prop) (f : AV → List AV → Store → Res AV) : Prop := ∀ (W : WX) (F : Fix) (m : Nat → Addr) (st : Store) (S : Slots) (σ : St) (H : Hp) (x : AV) (v : V) (xs : List AV) (vs : List V) (Q : VK), F.c = c → Rel F m st S σ H → AVal F m st.length H x v → AVls F m st.length H xs vs →
  PostE rV W F m st.length H S σ (f x xs st) Q → r v vs H Q
section
variable {X : Cx} {c : Ct} {W : WX} {F : Fix} {m : Nat → Addr} {H : Hp} {S : Slots} {σ : St} {st : Store}
theorem isLst_ok (hc : F.c = c) (R : Rel F m st S σ H) {x : AV} {v : V} (h : AVal F m st.length H x v) (e : isLst st x = true) : tyV c.K "list" v H := by
  unfold isLst at e
  split at e
  · cases h with
    | v h f => cases h with
      | lst h l r => exact .inl ⟨rfl, _, SqL.of h⟩
  · cases h with
    | v h f => cases h with
      | scr h => rw [hc] at h; exact .inl ⟨rfl, _, scr_sq (scr_of h)⟩
  · rename_i n
    cases q : lstAt st n with
    | none => rw [q] at e; cases e
    | some xs =>
      obtain ⟨_, vs, hv, _⟩ := lstAt_ok R q
      cases h with
      | ref hn => exact .inl ⟨rfl, _, SqL.of hv⟩
  · cases e
variable {o e : Expr} {es : List Expr} {de : DE} {da : DA} {name : Str} {apos cpos : Pos} {id : String} {r : V → List V → Hp → VK → Prop} {f : AV → List AV → Store → Res AV}
theorem pea_methQ (hK : c.K = X.K) (slot : Slot "list" name id) (hty : typeOf (.builtin id) = pure (.type "method_descriptor")) (hm : MtR X id r) (hf : MRok c r f) (ho : PEA X c W o de) (ha : PAA X c W (e :: es) da)
    (hbase : attributeBase o name X.env (eval o X.env) = eval o X.env := by rfl)
    (hfew : ((backTo cpos (starEach (e :: es) X.env)).all (fun x => !x.1) && (backToKw cpos (keywordEach [] X.env)).all (fun x => x.1.isSome)
      && decide ((e :: es).length + ([] : List Keyword).length + (if ([] : List Keyword).isEmpty then 0 else 1) < 30)) = true := by rfl)
    (hline : (apos.endLine == cpos.line) = true := by rfl) (hs : starEach (e :: es) X.env = (false, eval e X.env) :: starEach es X.env := by rfl) (hplain : (backTo cpos (starEach es X.env)).any (·.1) = false := by rfl) :
    PEA X c W (.Call (.Attribute o name apos) (e :: es) [] cpos) (dMeth f de da) := (pe_bm PySem.F.plainAttrs_list slot hty hm ho ha hbase hfew hline hs hplain).imp fun σ H Q ⟨F, m, s, S, hc, R, P⟩ =>
  ⟨F, m, s, S, hc, R, (PostE.bind P).imp fun v H1 ⟨m1, s1, x, _, a1, R1, r1, P1⟩ => by
    cases q : isLst s1 x with
    | false => rw [q] at P1; exact P1.elim
    | true =>
      rw [q] at P1
      exact ⟨by rw [← hK]; exact isLst_ok hc R1 r1 q, F, m1, s1, S, hc, R1, (PostE.bind P1).imp fun vs H2 ⟨m2, s2, xs, _, a2, R2, r2, P2⟩ => hf W F m2 s2 S σ H2 x v xs vs Q hc R2 (AVal.step a2 r1) r2 P2⟩⟩
theorem pea_meth (cn : Cn X c) (slot : Slot "list" name id) (hty : typeOf (.builtin id) = pure (.type "method_descriptor")) (hm : MtR X id r) (hf : MRok c r f) (ho : PEA X c W o de) (ha : PAA X c W (e :: es) da)
    (hbase : attributeBase o name X.env (eval o X.env) = eval o X.env := by rfl)
    (hfew : ((backTo cpos (starEach (e :: es) X.env)).all (fun x => !x.1) && (backToKw cpos (keywordEach [] X.env)).all (fun x => x.1.isSome)
      && decide ((e :: es).length + ([] : List Keyword).length + (if ([] : List Keyword).isEmpty then 0 else 1) < 30)) = true := by rfl)
    (hline : (apos.endLine == cpos.line) = true := by rfl) (hs : starEach (e :: es) X.env = (false, eval e X.env) :: starEach es X.env := by rfl) (hplain : (backTo cpos (starEach es X.env)).any (·.1) = false := by rfl) :
    PEA X c W (.Call (.Attribute o name apos) (e :: es) [] cpos) (dMeth f de da) := pea_methQ cn.K slot hty hm hf ho ha hbase hfew hline hs hplain
theorem pea_meth0 (cn : Cn X c) (slot : Slot "list" name id) (hty : typeOf (.builtin id) = pure (.type "method_descriptor")) (hm : MtR X id r) (hf : MRok c r f) (ho : PEA X c W o de)
    (hbase : attributeBase o name X.env (eval o X.env) = eval o X.env := by rfl) (hline : (apos.endLine == cpos.line) = true := by rfl) :
    PEA X c W (.Call (.Attribute o name apos) [] [] cpos) (dMeth0 f de) := (pe_bm0 PySem.F.plainAttrs_list slot hty hm ho hbase hline).imp fun σ H Q ⟨F, m, s, S, hc, R, P⟩ =>
  ⟨F, m, s, S, hc, R, (PostE.bind P).imp fun v H1 ⟨m1, s1, x, _, a1, R1, r1, P1⟩ => by
    cases q : isLst s1 x with
    | false => rw [q] at P1; exact P1.elim
    | true =>
      rw [q] at P1
      exact ⟨by rw [← cn.K]; exact isLst_ok hc R1 r1 q, hf W F m1 s1 S σ H1 x v [] [] Q hc R1 r1 .nil P1⟩⟩
theorem avNon {N : Nat} : AVal F m N H (.v .non false) .non := .v .non fun e => nomatch e
/-- the store's list n becomes ys -/
def putL (n : Nat) (ys : List AV) (y : AV) (st : Store) : Res AV := .ok y (st.set n (.lst ys))
theorem nl {st : Store} {n : Nat} {xs : List AV} (e : lstAt st n = some xs) : ∀ o, st[n]? = some o → o.lkd = false := fun o z => by
  unfold lstAt at e
  rw [z] at e
  cases o <;> first | rfl | cases e
theorem putL_ok {n : Nat} {ys : List AV} {us : List V} {y : AV} {u : V} {Q : VK} (R : Rel F m st S σ H) (hl : ∀ o, st[n]? = some o → o.lkd = false) (hn : n < st.length) (h : AVls0 F m st.length H ys us) (hy : ∀ H', Step m st.length H m st.length H' → AVal F m st.length H' y u) (P : PostE rV W F m st.length H S σ (putL n ys y st) Q) : Q u (upd H (m n) (.lst us)) := by
  obtain ⟨a, R'⟩ := R.write hn (.lst h) hl
  have hl : (st.set n (AO.lst ys)).length = st.length := List.length_set
  refine P m u _ a R' ?_
  show AVal F m (st.set n (AO.lst ys)).length _ y u
  rw [hl] at a ⊢
  exact hy _ a
/-- the lists behind list values -/
def itemsOf (st : Store) : AV → Option (List AV)
  | .v (.lst _ ps) _ => some (ps.map (AV.v · false))
  | .ref n => lstAt st n
  | _ => none
theorem itemsOf_ok (R : Rel F m st S σ H) {x : AV} {v : V} {xs : List AV} (h : AVal F m st.length H x v) (e : itemsOf st x = some xs) : ∃ a vs, v = .ref a ∧ H a = some (.lst vs) ∧ AVls0 F m st.length H xs vs := by
  unfold itemsOf at e
  split at e
  · cases e
    cases h with
    | v h f => cases h with
      | lst h l r => exact ⟨_, _, rfl, h, AVls.zero (Vls.avls r)⟩
  · obtain ⟨_, vs, hv, r⟩ := lstAt_ok R e
    cases h with
    | ref hn => exact ⟨_, _, rfl, hv, r⟩
  · cases e
def fAppend : AV → List AV → Store → Res AV := fun x as st => match x, as with
  | .ref n, [y] => match lstAt st n with
    | some xs => bif Nat.blt xs.length 1000000 then putL n (xs ++ [A.strip y]) (.v .non false) st else .bad
    | none => .bad
  | _, _ => .bad
theorem lt_line {n : Nat} (h : Nat.blt n 1000000 = true) : n < sizeLine := Nat.lt_of_lt_of_le (Nat.le_of_ble_eq_true h) (by decide)
theorem mr_append : MRok c rAppend fAppend := by
  intro W F m st S σ H x v xs vs Q hc R rx rs P
  unfold fAppend at P
  split at P
  · rename_i n y
    cases rx with
    | ref hn =>
    cases rs with
    | cons ry t =>
    cases t
    split at P
    · rename_i ys e
      obtain ⟨_, us, hu, ru⟩ := lstAt_ok R e
      cases q : Nat.blt ys.length 1000000 with
      | false => rw [q] at P; exact P.elim
      | true =>
        rw [q] at P
        exact ⟨_, us, _, rfl, rfl, hu, by rw [← Paired.length ru]; exact lt_line q, putL_ok R (nl e) hn (pairedAppend ru (.cons ry.zero.strip0 .nil)) (fun _ _ => avNon) P⟩
    · exact P.elim
  · exact P.elim
def fExtend : AV → List AV → Store → Res AV := fun x as st => match x, as with
  | .ref n, [y] => match lstAt st n, itemsOf st y with
    | some xs, some ys => bif Nat.ble (xs.length + ys.length) 1000000 then putL n (xs ++ ys) (.v .non false) st else .bad
    | _, _ => .bad
  | _, _ => .bad
theorem mr_extend : MRok c rExtend fExtend := by
  intro W F m st S σ H x v xs vs Q hc R rx rs P
  unfold fExtend at P
  split at P
  · rename_i n y
    cases rx with
    | ref hn =>
    cases rs with
    | cons ry t =>
    cases t
    split at P
    · rename_i ys zs e e2
      obtain ⟨_, us, hu, ru⟩ := lstAt_ok R e
      obtain ⟨b, ws, rfl, hw, rw'⟩ := itemsOf_ok R ry e2
      cases q : Nat.ble (ys.length + zs.length) 1000000 with
      | false => rw [q] at P; exact P.elim
      | true =>
        rw [q] at P
        exact ⟨_, b, us, ws, rfl, rfl, hu, hw, by rw [← Paired.length ru, ← Paired.length rw']; exact le_line q, putL_ok R (nl e) hn (pairedAppend ru rw') (fun _ _ => avNon) P⟩
    · exact P.elim
  · exact P.elim
def fClear : AV → List AV → Store → Res AV := fun x as st => match x, as with
  | .ref n, [] => match lstAt st n with
    | some _ => putL n [] (.v .non false) st
    | none => .bad
  | _, _ => .bad
theorem mr_clear : MRok c rClear fClear := by
  intro W F m st S σ H x v xs vs Q hc R rx rs P
  unfold fClear at P
  split at P
  · cases rx with
    | ref hn =>
    cases rs
    split at P
    · rename_i ys e
      obtain ⟨_, us, hu, ru⟩ := lstAt_ok R e
      exact ⟨_, us, rfl, rfl, hu, putL_ok R (nl e) hn .nil (fun _ _ => avNon) P⟩
    · exact P.elim
  · exact P.elim
def fReverse : AV → List AV → Store → Res AV := fun x as st => match x, as with
  | .ref n, [] => match lstAt st n with
    | some xs => putL n xs.reverse (.v .non false) st
    | none => .bad
  | _, _ => .bad
theorem mr_reverse : MRok c rReverse fReverse := by
  intro W F m st S σ H x v xs vs Q hc R rx rs P
  unfold fReverse at P
  split at P
  · cases rx with
    | ref hn =>
    cases rs
    split at P
    · rename_i ys e
      obtain ⟨_, us, hu, ru⟩ := lstAt_ok R e
      exact ⟨_, us, rfl, rfl, hu, putL_ok R (nl e) hn (pairedRev ru) (fun _ _ => avNon) P⟩
    · exact P.elim
  · exact P.elim
theorem AVal0.at {x : AV} {v : V} {N : Nat} (h : AVal0 F m N H x v) (H' : Hp) (s : Step m N H m N H') : AVal F m N H' (A.strip x) v := (AVal0.step s h).strip
def fPop : AV → List AV → Store → Res AV := fun x as st => match x, as with
  | .ref n, [] => match lstAt st n with
    | some xs => match xs[xs.length - 1]? with
      | some y => putL n xs.dropLast (A.strip y) st
      | none => .bad
    | none => .bad
  | _, _ => .bad
theorem pairedInit {α β : Type} {P : α → β → Prop} {xs : List α} {vs : List β} (h : Paired P xs vs) : Paired P xs.dropLast vs.dropLast := by
  rw [List.dropLast_eq_take, List.dropLast_eq_take, ← Paired.length h]
  exact pairedTake _ h
theorem mr_pop : MRok c rPop fPop := by
  intro W F m st S σ H x v xs vs Q hc R rx rs P
  unfold fPop at P
  split at P
  · cases rx with
    | ref hn =>
    cases rs
    split at P
    · rename_i ys e
      obtain ⟨_, us, hu, ru⟩ := lstAt_ok R e
      split at P
      · rename_i y ey
        obtain ⟨w, ew, rw'⟩ := pairedGet ru ey
        exact ⟨_, us, w, rfl, rfl, hu, by rw [← Paired.length ru]; exact ew, putL_ok R (nl e) hn (pairedInit ru) (fun H' s => AVal0.at rw' H' s) P⟩
      · exact P.elim
    · exact P.elim
  · exact P.elim
def fPopAt : AV → List AV → Store → Res AV := fun x as st => match x, as with
  | .ref n, [.v (.int i) _] => match lstAt st n with
    | some xs => bif bnd i then (match L2.ixN xs.length i with
      | some k => (match xs[k]? with
        | some y => putL n (xs.eraseIdx k) (A.strip y) st
        | none => .bad)
      | none => .bad) else .bad
    | none => .bad
  | _, _ => .bad
theorem mr_popAt : MRok c rPopAt fPopAt := by
  intro W F m st S σ H x v xs vs Q hc R rx rs P
  unfold fPopAt at P
  split at P
  · rename_i n i fr
    cases rx with
    | ref hn =>
    cases rs with
    | cons ry t =>
    cases t
    have ei := isI ry
    subst ei
    split at P
    · rename_i ys e
      obtain ⟨_, us, hu, ru⟩ := lstAt_ok R e
      cases qb : bnd i with
      | false => rw [qb] at P; exact P.elim
      | true =>
        rw [qb] at P
        simp only [cond_true] at P
        split at P
        · rename_i k ek
          split at P
          · rename_i y ey
            obtain ⟨w, ew, rw'⟩ := pairedGet ru ey
            have hs := (ixN_seq ek).1
            rw [Paired.length ru] at hs
            have hb := bnd_ok qb
            exact ⟨_, us, i, k, w, rfl, rfl, hu, by omega, by omega, hs, ew, putL_ok R (nl e) hn (pairedErase k ru) (fun H' s => AVal0.at rw' H' s) P⟩
          · exact P.elim
        · exact P.elim
    · exact P.elim
  · exact P.elim
def fInsert : AV → List AV → Store → Res AV := fun x as st => match x, as with
  | .ref n, [.v (.int i) _, y] => match lstAt st n with
    | some xs => bif Nat.blt xs.length 1000000 && decide (0 ≤ i) && bnd i then putL n (xs.take i.toNat ++ [A.strip y] ++ xs.drop i.toNat) (.v .non false) st else .bad
    | none => .bad
  | _, _ => .bad
theorem mr_insert : MRok c (fun x vs H Q => ∃ (l : Addr) (xs : List V) (i : Int) (y : V), x = .ref l ∧ vs = [.int i, y] ∧ H l = some (.lst xs) ∧ xs.length < sizeLine ∧ 0 ≤ i ∧ i < 2 ^ 63 ∧
    Q .non (upd H l (.lst (xs.take i.toNat ++ [y] ++ xs.drop i.toNat)))) fInsert := by
  intro W F m st S σ H x v xs vs Q hc R rx rs P
  unfold fInsert at P
  split at P
  · rename_i n i fr y
    cases rx with
    | ref hn =>
    cases rs with
    | cons ri t =>
    cases t with
    | cons ry t =>
    cases t
    have ei := isI ri
    subst ei
    split at P
    · rename_i ys e
      obtain ⟨_, us, hu, ru⟩ := lstAt_ok R e
      cases qb : Nat.blt ys.length 1000000 && decide (0 ≤ i) && bnd i with
      | false => rw [qb] at P; exact P.elim
      | true =>
        rw [qb] at P
        rw [Bool.and_eq_true, Bool.and_eq_true] at qb
        have hb := bnd_ok qb.2
        exact ⟨_, us, i, _, rfl, rfl, hu, by rw [← Paired.length ru]; exact lt_line qb.1.1, of_decide_eq_true qb.1.2, by omega, putL_ok R (nl e) hn (pairedAppend (pairedAppend (pairedTake _ ru) (.cons ry.zero.strip0 .nil)) (pairedDrop _ ru)) (fun _ _ => avNon) P⟩
    · exact P.elim
  · exact P.elim
end

/-! ### an item stored -/
section
variable {X : Cx} {c : Ct} {W : WX} {o i e : Expr} {dv dob di : DE} {pos pos' : Pos}
def fPut (x i y : AV) (st : Store) : Option Store := match x, i with
  | .ref n, .v (.int k) _ => match lstAt st n with
    | some xs => match L2.ixN xs.length k with
      | some j => some (st.set n (.lst (xs.set j (A.strip y))))
      | none => none
    | none => none
  | _, _ => none
theorem fPut_ok {x i y : AV} {st st4 : Store} (h : fPut x i y st = some st4) : ∃ n k fr xs j, x = .ref n ∧ i = .v (.int k) fr ∧ lstAt st n = some xs ∧ L2.ixN xs.length k = some j ∧ st4 = st.set n (.lst (xs.set j (A.strip y))) := by
  unfold fPut at h
  split at h
  · split at h
    · split at h
      · cases h; exact ⟨_, _, _, _, _, rfl, rfl, ‹_›, ‹_›, rfl⟩
      · cases h
    · cases h
  · cases h
def dPut (dv dob di : DE) : DS := fun S st => (dv S st).flow S fun y st1 => (dob S st1).flow S fun x st2 => (di S st2).flow S fun i st3 => match fPut x i y st3 with
  | some st4 => .nx S st4
  | none => .bad
theorem psa_put (he : PEA X c W e dv) (ho : PEA X c W o dob) (hi : PEA X c W i di) (hs : swapsWithSole [.Subscript o i pos'] e pos.line X.env = pure false := by rfl) (hw : swappedStores [.Subscript o i pos'] e X.env = pure none := by rfl)
    (h1 : (assignEach [.Subscript o i pos'] X.env).map (·.2) = [assign (.Subscript o i pos') X.env] := by rfl)
    (ha : ∀ v, assign (.Subscript o i pos') X.env v = (do
      let ov ← holding [v] (eval o X.env)
      let iv ← holding [v, ov] (eval i X.env)
      standAt pos'
      holding [v, ov, iv] (setItem ov iv v)
      release [v, ov, iv] []) := by intro _; rfl) : PSA X c W (.Assign [.Subscript o i pos'] e pos) (dPut dv dob di) := (ps_asg he (pg_sub ho hi set_list ha) hs hw h1).imp fun D σ H ⟨F, m, s, S, hc, R, P⟩ =>
  ⟨F, m, s, S, hc, R, (PostS.bind P).imp fun v H1 ⟨m1, s1, y, _, a1, R1, r1, P1⟩ => ⟨F, m1, s1, S, hc, R1, (PostS.bind P1).imp fun v2 H2 ⟨m2, s2, x, _, a2, R2, r2, P2⟩ => ⟨F, m2, s2, S, hc, R2, (PostS.bind P2).imp fun v3 H3 ⟨m3, s3, k, _, a3, R3, r3, P3⟩ => by
    have r1 := AVal.step (a2.trans a3) r1
    have r2 := AVal.step a3 r2
    cases q : fPut x k y s3 with
    | none => rw [q] at P3; exact P3.elim
    | some st4 =>
      rw [q] at P3
      obtain ⟨n, kk, fr, ys, j, rfl, rfl, el, ej, rfl⟩ := fPut_ok q
      cases r2 with
      | ref hn =>
      have ei := isI r3
      subst ei
      obtain ⟨_, us, hu, ru⟩ := lstAt_ok R3 el
      obtain ⟨a, R'⟩ := R3.write (o := .lst (ys.set j (A.strip y))) hn (.lst (pairedSet r1.zero.strip0 j ru)) (nl el)
      exact ⟨_, us, kk, j, rfl, rfl, hu, by rw [← Paired.length ru]; exact ej, P3 m3 σ _ a R'⟩⟩⟩⟩
/-! ### name += e; unary minus; a, b = x, y -/
def fInts : AV → Option Int
  | .v (.int i) _ => some i
  | _ => none
def dAug (neg : Bool) (i : Nat) (de : DE) : DS := fun S st => match (S[i]?).join.bind fInts with
  | none => .bad
  | some a => (de S st).flow S fun y st1 => match fInts y with
    | some b => .nx (S.set i (some (.v (.int (bif neg then a - b else a + b)) false))) st1
    | none => .bad
theorem fInts_ok {F : Fix} {m : Nat → Addr} {N : Nat} {H : Hp} {x : AV} {v : V} {i : Int} (h : AVal F m N H x v) (e : fInts x = some i) : v = .int i := by
  unfold fInts at e
  split at e
  · cases e; exact isI h
  · cases e
theorem psa_aug (cn : Cn X c) (neg : Bool) {op : Operator} {i : Nat} {x : Str} {de : DE} (hop : PIp X op (ipI fun i j => bif neg then i - j else i + j)) (he : PEA X c W e de) (hi : X.N[i]? = some x := by rfl) (hx : Loc X.env.scope x := by first | exact Or.inl rfl | exact Or.inr rfl) (hf : X.fn x = true ∨ X.env.scope.names.lookup x = some .local := by first | exact .inl rfl | exact .inr rfl) :
    PSA X c W (.AugAssign (.Name x pos') op e pos) (dAug neg i de) := (ps_aug cn.nd hi hx he hop hf).imp fun D σ H ⟨F, m, s, S, hc, R, P⟩ => by
  unfold dAug at P
  cases q : (S[i]?).join.bind fInts with
  | none => rw [q] at P; exact P.elim
  | some a =>
    rw [q] at P
    obtain ⟨y, ey, ea⟩ : ∃ y, S[i]? = some (some y) ∧ fInts y = some a := by
      cases q1 : S[i]? with
      | none => rw [q1] at q; cases q
      | some z => cases z with
        | none => rw [q1] at q; cases q
        | some y => rw [q1] at q; exact ⟨y, rfl, q⟩
    obtain ⟨v, ev, rv⟩ := R.slo i y ey
    have := fInts_ok rv ea
    subst this
    refine ⟨_, ev, F, m, s, S, hc, R, (PostS.bind P).imp fun w H1 ⟨m1, s1, z, _, a1, R1, r1, P1⟩ => ?_⟩
    cases q2 : fInts z with
    | none => rw [q2] at P1; exact P1.elim
    | some b =>
      rw [q2] at P1
      have := fInts_ok r1 q2
      subst this
      exact ⟨a, b, rfl, rfl, P1 m1 _ H1 Step.refl (R1.slot (.v (.int _) fun e => nomatch e))⟩
theorem ip_addB : PIp X .Add (ipI fun i j => bif false then i - j else i + j) := ip_add
theorem ip_subB : PIp X .Sub (ipI fun i j => bif true then i - j else i + j) := ip_sub
def dNeg (de : DE) : DE := fun S st => (de S st).then fun x st1 => match fInts x with
  | some i => .ok (.v (.int (-i)) false) st1
  | none => .bad
theorem pea_neg {de : DE} (he : PEA X c W e de) : PEA X c W (.UnaryOp .USub e pos) (dNeg de) := (pe_un un_neg he).imp fun σ H Q ⟨F, m, s, S, hc, R, P⟩ =>
  ⟨F, m, s, S, hc, R, (PostE.bind P).imp fun v H1 ⟨m1, s1, x, _, a1, R1, r1, P1⟩ => by
    cases q : fInts x with
    | none => rw [q] at P1; exact P1.elim
    | some i =>
      rw [q] at P1
      have := fInts_ok r1 q
      subst this
      exact ⟨i, rfl, PostE.here P1 R1 (.v (.int _) fun e => nomatch e)⟩⟩
theorem psa_doc {x : Str} {j} {pos pos' : Pos} : PSA X c W (.Expr (.Constant (.str x) j pos) pos') dNext := ps_doc.imp fun D σ H ⟨F, m, s, S, hc, R, P⟩ => P m σ H Step.refl R
def dPar (i j : Nat) (da : DA) : DS := fun S st => (da S st).flow S fun xs st1 => match xs with
  | [x, y] => .nx ((S.set i (some x)).set j (some y)) st1
  | _ => .bad
theorem psa_par (cn : Cn X c) {i j : Nat} {x y : Str} {a b : Expr} {da : DA} {px py pt : Pos} {kt k2 pt2} (ha : PAA X c W [a, b] da) (hw : swappedStores [.Tuple [.Name x px, .Name y py] kt pt] (.Tuple [a, b] k2 pt2) X.env = pure (some [x, y])) (hi : X.N[i]? = some x := by rfl) (hj : X.N[j]? = some y := by rfl) (hij : i ≠ j := by decide)
    (hx : X.env.scope.names.lookup x = some .local := by rfl) (hy : X.env.scope.names.lookup y = some .local := by rfl)
    (hs : swapsWithSole [.Tuple [.Name x px, .Name y py] kt pt] (.Tuple [a, b] k2 pt2) pos.line X.env = pure false := by rfl) :
    PSA X c W (.Assign [.Tuple [.Name x px, .Name y py] kt pt] (.Tuple [a, b] k2 pt2) pos) (dPar i j da) := (ps_par cn.calm cn.nd hi hj hij hx hy ha hw hs).imp fun D σ H ⟨F, m, s, S, hc, R, P⟩ =>
  ⟨F, m, s, S, hc, R, (PostS.bind P).imp fun vs H1 ⟨m1, s1, xs, _, a1, R1, r1, P1⟩ => by
    split at P1
    · cases r1 with
      | cons r1 t =>
      cases t with
      | cons r2 t =>
      cases t
      exact ⟨_, _, rfl, P1 m1 _ H1 Step.refl ((R1.slot r1).slot r2)⟩
    · exact P1.elim⟩
def dPar3 (i j l : Nat) (da : DA) : DS := fun S st => (da S st).flow S fun xs st1 => match xs with
  | [x, y, z] => .nx (((S.set i (some x)).set j (some y)).set l (some z)) st1
  | _ => .bad
end
end A

/-! The A-layer, part 11: walks over range with a step, enumerate, zip, reversed. -/
namespace A
open PySem PySem.Spec PyProof.Rows L2
section
variable {X : Cx} {c : Ct} {W : WX} {tg e e2 : Expr} {es : List Expr} {de : DE} {da : DA} {p pos : Pos}
def rangeC (lo k : Int) (n : Nat) : List AV := (List.range n).map fun (i : Nat) => .v (.int (lo + (i : Int) * k)) false
theorem walk_rangeC (lo k : Int) (n : Nat) : WalkA c (Itc lo k n) (rangeC lo k n) fun _ _ _ _ => True where
  stay := fun _ _ _ _ _ _ _ _ _ => trivial
  av := fun _ _ _ _ _ _ _ => trivial
  over := fun _ _ _ _ _ _ _ _ _ _ => trivial
  stop := fun F m st S σ H hc R g => by show n ≤ (rangeC lo k n).length; simp [rangeC]
  go := fun F m st S σ H i x hc R g e => by
    have := (List.getElem?_eq_some_iff.mp e).1
    show i < n
    simpa [rangeC] using this
  yld := fun F m st S σ H i x v H' hc R g e y => by
    obtain ⟨rfl, rfl⟩ := y
    have hi := (List.getElem?_eq_some_iff.mp e).1
    have : x = .v (.int (lo + (i : Int) * k)) false := by
      unfold rangeC at e hi
      rw [List.getElem?_map, List.getElem?_range (by simpa using hi)] at e
      cases e; rfl
    subst this
    exact ⟨fun b o h => h, .v (.int _) fun e => nomatch e⟩
def asI3 : List AV → Option (Int × Int × Int)
  | [.v (.int i) _, .v (.int j) _, .v (.int k) _] => some (i, j, k)
  | _ => none
theorem asI3_ok {F : Fix} {m : Nat → Addr} {N : Nat} {H : Hp} {xs : List AV} {vs : List V} {i j k : Int} (h : AVls F m N H xs vs) (e : asI3 xs = some (i, j, k)) : vs = [.int i, .int j, .int k] := by
  unfold asI3 at e
  split at e
  · cases e
    cases h with
    | cons a t =>
      cases t with
      | cons b t =>
        cases t with
        | cons d t => cases t; rw [isI a, isI b, isI d]
  · cases e
/-- range(i, j, -1) -/
def dRange3 (da : DA) : DA := fun S st => (da S st).then fun xs st1 => match asI3 xs with
  | some (i, j, k) => bif bnd i && bnd j && decide (k = -1) then .ok (rangeC i (-1) (i - j).toNat) st1 else .bad
  | none => .bad
theorem pia_range3 {a b d : Expr} (hm : X.mg "range" = none) (ha : PAA X c W [a, b, d] da) (hg : Gl X "range" := by rfl) (hs : starEach [a, b, d] X.env = (false, eval a X.env) :: starEach [b, d] X.env := by rfl) (hpl : (backTo pos (starEach [b, d] X.env)).any (·.1) = false := by rfl) : PIA X c W tg (.Call (.Name "range" p) [a, b, d] [] pos) (dRange3 da) :=
  (pi_range3 hg hm ha hs hpl).imp fun σ H R ⟨F, m, s, S, hc, R0, P⟩ => ⟨F, m, s, S, hc, R0, (PostI.bind P).imp fun vs H1 ⟨m1, s1, xs, _, a1, R1, r1, P1⟩ => by
    cases e : asI3 xs with
    | none => rw [e] at P1; exact P1.elim
    | some ij =>
      obtain ⟨i, j, k⟩ := ij
      rw [e] at P1
      simp only at P1
      cases q : bnd i && bnd j && decide (k = -1) with
      | false => rw [q] at P1; exact P1.elim
      | true =>
        rw [q] at P1
        rw [Bool.and_eq_true, Bool.and_eq_true] at q
        have hk : k = -1 := of_decide_eq_true q.2
        subst hk
        exact ⟨i, j, -1, _, asI3_ok r1 e, RgC.neg (bnd_ok q.1.1).1 (bnd_ok q.1.1).2 (bnd_ok q.1.2).1 (bnd_ok q.1.2).2, PostI.here P1 R1 (walk_rangeC i (-1) _) trivial⟩⟩
/-! a value's items, as they stand -/
inductive LA (c : Ct) (a : Addr) : List PV → Fix → (Nat → Addr) → Nat → Hp → Prop
  | lst {ps : List PV} {F : Fix} {m : Nat → Addr} {N : Nat} {H : Hp} {vs : List V} {t : Bool} : F.c = c → H a = some (.lst vs) → Lw F m N t a → Vls F.c (Lw F m N) H ps vs → LA c a ps F m N H
  | scr {ns : List Int} {F : Fix} {m : Nat → Addr} {N : Nat} {H : Hp} : ScrAt c.K H a ns → LA c a (ns.map .int) F m N H
  | frz {ps : List PV} {F : Fix} {m : Nat → Addr} {N : Nat} {H : Hp} {vs : List V} {ob : Obj} : F.c = c → H a = some (.frz ob (.lst vs)) → Vls F.c (Lw F m N) H ps vs → LA c a ps F m N H
structure TpA (c : Ct) (a : Addr) (ps : List PV) (F : Fix) (m : Nat → Addr) (N : Nat) (H : Hp) : Prop where
  at_ : ∃ vs, F.c = c ∧ SqT c.K H a vs ∧ Vls F.c (Lw F m N) H ps vs
theorem ints_vals {F : Fix} {m : Nat → Addr} {N : Nat} {H : Hp} : ∀ ns : List Int, Vls F.c (Lw F m N) H (ns.map .int) (ns.map V.int)
  | [] => .nil
  | n :: ns => .cons (.int n) (ints_vals ns)
section
variable {F : Fix} {m m' : Nat → Addr} {N N' : Nat} {H H' : Hp} {a D : Addr} {ps : List PV}
theorem LA.sq (h : LA c a ps F m N H) : ∃ vs, SqL c.K H a vs ∧ Vls F.c (Lw F m N) H ps vs := by
  cases h with
  | lst h0 h1 h2 h3 => exact ⟨_, SqL.of h1, h3⟩
  | scr h => exact ⟨_, scr_sq h, ints_vals _⟩
  | frz h0 h1 h2 => exact ⟨_, .inl (.inr ⟨_, h1⟩), h2⟩
theorem LA.stay (h : LA c a ps F m N H) (s : Step m N H m' N' H') : LA c a ps F m' N' H' := by
  cases h with
  | lst h0 h1 h2 h3 => exact .lst h0 (s.keep a _ h1 h2.2.2 rfl) (Lw.step s h2 (some_ne h1)) (Vls.step s h3)
  | scr h => exact .scr (walk_scr.stay F _ _ _ _ _ _ s h)
  | frz h0 h1 h2 => exact .frz h0 (s.imm _ _ h1 rfl) (Vls.step s h2)
theorem LA.av {b : Addr} (h : LA c a ps F m N H) (hb : H b = none) : LA c a ps (F.av b) m N H := by
  cases h with
  | lst h0 h1 h2 h3 => exact .lst h0 h1 ⟨h2.1, ⟨fun z => Or.elim z h2.2.1 fun z => (by rw [z, hb] at h1; cases h1), h2.2.2⟩⟩ (Vls.av h3 hb)
  | scr h => exact .scr h
  | frz h0 h1 h2 => exact .frz h0 h1 (Vls.av h2 hb)
theorem LA.over {acc acc' : List V} (h : LA c a ps F m N H) (hz : F.Z D) (hD : H D = some (.lst acc)) : LA c a ps F m N (upd H D (.lst acc')) := by
  cases h with
  | lst h0 h1 h2 h3 => exact .lst h0 (by rw [upd_ne (fun z => h2.2.1 (by rw [z]; exact hz))]; exact h1) h2 (over_vls hz hD h3)
  | scr h => exact .scr (walk_scr.over F m N _ _ _ _ hz hD h)
  | frz h0 h1 h2 => exact .frz h0 (by rw [upd_ne (fun z => by rw [← z, h1] at hD; cases hD)]; exact h1) (over_vls hz hD h2)
theorem TpA.stay (h : TpA c a ps F m N H) (s : Step m N H m' N' H') : TpA c a ps F m' N' H' := by
  obtain ⟨vs, h0, h1, h2⟩ := h.at_
  exact ⟨vs, h0, sqT_imm s.imm h1, Vls.step s h2⟩
theorem TpA.av {b : Addr} (h : TpA c a ps F m N H) (hb : H b = none) : TpA c a ps (F.av b) m N H := by
  obtain ⟨vs, h0, h1, h2⟩ := h.at_
  exact ⟨vs, h0, h1, Vls.av h2 hb⟩
theorem TpA.over {acc acc' : List V} (h : TpA c a ps F m N H) (hz : F.Z D) (hD : H D = some (.lst acc)) : TpA c a ps F m N (upd H D (.lst acc')) := by
  obtain ⟨vs, h0, h1, h2⟩ := h.at_
  exact ⟨vs, h0, sqT_imm (over_imm hD) h1, over_vls hz hD h2⟩
end
/-- a list's (true) or a tuple's (false) items -/
def seqP : AV → Option (Bool × List PV)
  | .v (.lst _ ps) _ => some (true, ps)
  | .v (.tup ps) _ => some (false, ps)
  | .v (.scr ns) _ => some (true, ns.map .int)
  | _ => none
theorem seqP_ok {F : Fix} {m : Nat → Addr} {N : Nat} {H : Hp} {x : AV} {v : V} {k : Bool} {ps : List PV} (hc : F.c = c) (h : AVal F m N H x v) (e : seqP x = some (k, ps)) : ∃ a, v = .ref a ∧ (if k then LA c a ps F m N H else TpA c a ps F m N H) := by
  unfold seqP at e
  split at e
  · cases e
    cases h with
    | v h f => cases h with
      | lst h l r => exact ⟨_, rfl, .lst hc h l r⟩
  · cases e
    cases h with
    | v h f => cases h with
      | tup h r => exact ⟨_, rfl, ⟨⟨_, hc, .inl (.inl h), r⟩⟩⟩
  · cases e
    cases h with
    | v h f => cases h with
      | scr h => exact ⟨_, rfl, .scr (by rw [← hc]; exact scr_of h)⟩
  · cases e
def pvs (ps : List PV) : List AV := ps.map (AV.v · false)
theorem rev_get {α : Type} {xs : List α} {i : Nat} (h : i < xs.length) : xs.reverse[i]? = xs[xs.length - 1 - i]? := List.getElem?_reverse h
theorem walk_rev {a : Addr} {ps : List PV} : WalkA c (Itv c.K a ps.length) (pvs ps.reverse) (LA c a ps) where
  stay := fun F m N H m' N' H' s h => h.stay s
  av := fun F m N H b hb h => h.av hb
  over := fun F m N H D acc acc' hz hD h => h.over hz hD
  stop := fun F m st S σ H hc R h => by show ps.length ≤ (pvs ps.reverse).length; simp [pvs]
  go := fun F m st S σ H i x hc R h e => by
    have hi : i < ps.length := by
      have := (List.getElem?_eq_some_iff.mp e).1
      simpa [pvs] using this
    obtain ⟨vs, h1, h2⟩ := h.sq
    obtain ⟨p, e1, rfl⟩ := map_get e
    rw [rev_get hi] at e1
    obtain ⟨v, e2, _⟩ := Vls.get h2 e1
    exact ⟨hi, vs, v, h1, e2⟩
  yld := fun F m st S σ H i x v H' hc R h e y => by
    have hi : i < ps.length := by
      have := (List.getElem?_eq_some_iff.mp e).1
      simpa [pvs] using this
    obtain ⟨vs, h1, h2⟩ := h.sq
    obtain ⟨p, e1, rfl⟩ := map_get e
    rw [rev_get hi] at e1
    obtain ⟨v', e2, h4⟩ := Vls.get h2 e1
    obtain ⟨rfl, y⟩ := y
    have := y vs h1
    rw [e2] at this; cases this
    exact ⟨fun b o h => h, .v h4 fun e => nomatch e⟩
theorem walk_revT {a : Addr} {ps : List PV} : WalkA c (RT.ItvT c.K a ps.length) (pvs ps.reverse) (TpA c a ps) where
  stay := fun F m N H m' N' H' s h => h.stay s
  av := fun F m N H b hb h => h.av hb
  over := fun F m N H D acc acc' hz hD h => h.over hz hD
  stop := fun F m st S σ H hc R h => by show ps.length ≤ (pvs ps.reverse).length; simp [pvs]
  go := fun F m st S σ H i x hc R h e => by
    have hi : i < ps.length := by
      have := (List.getElem?_eq_some_iff.mp e).1
      simpa [pvs] using this
    obtain ⟨vs, h0, h1, h2⟩ := h.at_
    obtain ⟨p, e1, rfl⟩ := map_get e
    rw [rev_get hi] at e1
    obtain ⟨v, e2, _⟩ := Vls.get h2 e1
    exact ⟨hi, vs, v, h1, e2⟩
  yld := fun F m st S σ H i x v H' hc R h e y => by
    have hi : i < ps.length := by
      have := (List.getElem?_eq_some_iff.mp e).1
      simpa [pvs] using this
    obtain ⟨vs, h0, h1, h2⟩ := h.at_
    obtain ⟨p, e1, rfl⟩ := map_get e
    rw [rev_get hi] at e1
    obtain ⟨v', e2, h4⟩ := Vls.get h2 e1
    obtain ⟨rfl, y⟩ := y
    have := y vs h1
    rw [e2] at this; cases this
    exact ⟨fun b o h => h, .v h4 fun e => nomatch e⟩
def dRevd (de : DE) : DA := fun S st => (de S st).then fun x st1 => match seqP x with
  | some (_, ps) => .ok (pvs ps.reverse) st1
  | none => .bad
theorem pia_rev (hK : c.K = X.K) (hm : X.mg "reversed" = none) (he : PEA X c W e de) (hg : Gl X "reversed" := by rfl) (hs : starEach [e] X.env = (false, eval e X.env) :: starEach [] X.env := by rfl) : PIA X c W tg (.Call (.Name "reversed" p) [e] [] pos) (dRevd de) :=
  (RT.pi_revA hg hm he hs).imp fun σ H R ⟨F, m, s, S, hc, R0, P⟩ => ⟨F, m, s, S, hc, R0, (PostI.bind P).imp fun v H1 ⟨m1, s1, x, _, a1, R1, r1, P1⟩ => by
    rw [← hK]
    cases q : seqP x with
    | none => rw [q] at P1; exact P1.elim
    | some kp =>
      obtain ⟨k, ps⟩ := kp
      rw [q] at P1
      obtain ⟨a, rfl, h⟩ := seqP_ok hc r1 q
      cases k with
      | true =>
        have h : LA c a ps F m1 s1.length H1 := h
        obtain ⟨vs, h1, h2⟩ := h.sq
        exact ⟨a, vs, rfl, .inl ⟨h1, by rw [← Vls.length h2]; exact PostI.here P1 R1 walk_rev h⟩⟩
      | false =>
        have h : TpA c a ps F m1 s1.length H1 := h
        obtain ⟨vs, h0, h1, h2⟩ := h.at_
        exact ⟨a, vs, rfl, .inr ⟨h1, by rw [← Vls.length h2]; exact PostI.here P1 R1 walk_revT h⟩⟩⟩
/-! enumerate -/
def enumP : Nat → List PV → List AV
  | _, [] => []
  | n, p :: ps => .v (.tup [.int n, p]) false :: enumP (n + 1) ps
theorem enumP_len : ∀ (n : Nat) (ps : List PV), (enumP n ps).length = ps.length
  | _, [] => rfl
  | n, p :: ps => by simp [enumP, enumP_len]
theorem enumP_get : ∀ {n : Nat} {ps : List PV} {i : Nat} {x : AV}, (enumP n ps)[i]? = some x → ∃ p, ps[i]? = some p ∧ x = .v (.tup [.int (n + i : Nat), p]) false
  | n, p :: ps, 0, x, e => by cases e; exact ⟨p, rfl, rfl⟩
  | n, p :: ps, i + 1, x, e => by
    obtain ⟨q, h1, h2⟩ := enumP_get (n := n + 1) (ps := ps) (i := i) e
    exact ⟨q, h1, by rw [h2, show n + 1 + i = n + (i + 1) by omega]⟩
theorem tupAt {c : Ct} {F : Fix} {m : Nat → Addr} {N : Nat} {H : Hp} {T : Addr} {qs : List PV} {us : List V} (hT : H T = none) (r : Vls F.c (Lw F m N) H qs us) : Same H (upd H T (.tup us)) ∧ AVal F m N (upd H T (.tup us)) (.v (.tup qs) false) (.ref T) :=
  ⟨same_upd hT, .v (.tup upd_same (Vls.step (Step.of (same_upd hT)) r)) fun e => nomatch e⟩
theorem walk_enum {a : Addr} {ps : List PV} : WalkA c (Ite c.K a) (enumP 0 ps) (LA c a ps) where
  stay := fun F m N H m' N' H' s h => h.stay s
  av := fun F m N H b hb h => h.av hb
  over := fun F m N H D acc acc' hz hD h => h.over hz hD
  stop := fun F m st S σ H hc R h => by
    obtain ⟨vs, h1, h2⟩ := h.sq
    exact ⟨vs, h1, by rw [enumP_len, Vls.length h2]; exact Nat.le_refl _⟩
  go := fun F m st S σ H i x hc R h e => by
    obtain ⟨vs, h1, h2⟩ := h.sq
    obtain ⟨p, e1, _⟩ := enumP_get e
    obtain ⟨v, e2, _⟩ := Vls.get h2 e1
    exact ⟨vs, v, h1, e2⟩
  yld := fun F m st S σ H i x v H' hc R h e y => by
    obtain ⟨vs, h1, h2⟩ := h.sq
    obtain ⟨p, e1, rfl⟩ := enumP_get e
    obtain ⟨v', e2, h4⟩ := Vls.get h2 e1
    obtain ⟨T, x, rfl, hT, rfl, y⟩ := y
    have := y vs h1
    rw [e2] at this; cases this
    rw [Nat.zero_add]
    exact tupAt (c := c) hT (.cons (.int _) (.cons h4 .nil))
def dEnum (da : DA) : DA := fun S st => (da S st).then fun xs st1 => match xs with
  | [x] => match seqP x with
    | some (true, ps) => .ok (enumP 0 ps) st1
    | _ => .bad
  | _ => .bad
theorem pia_enum {elts : List Expr} {kk} {tpos : Pos} (hK : c.K = X.K) (hm : X.mg "enumerate" = none) (he : PAA X c W [e] da) (hg : Gl X "enumerate" := by rfl) (hs : starEach [e] X.env = [(false, eval e X.env)] := by rfl) : PIA X c W (.Tuple elts kk tpos) (.Call (.Name "enumerate" p) [e] [] pos) (dEnum da) :=
  (pi_enum hg hm he hs).imp fun σ H R ⟨F, m, s, S, hc, R0, P⟩ => ⟨F, m, s, S, hc, R0, (PostI.bind P).imp fun v H1 ⟨m1, s1, xs, _, a1, R1, r1, P1⟩ => by
    rw [← hK]
    split at P1
    · rename_i x
      cases r1 with
      | cons r1 t =>
      cases t
      split at P1
      · rename_i ps q
        obtain ⟨a, rfl, h⟩ := seqP_ok hc r1 q
        have h : LA c a ps F m1 s1.length H1 := h
        obtain ⟨vs, h1, h2⟩ := h.sq
        exact ⟨a, vs, rfl, h1, PostI.here P1 R1 walk_enum h⟩
      · exact P1.elim
    · exact P1.elim⟩
/-! zip -/
def zipP : List PV → List PV → List AV
  | p :: ps, q :: qs => .v (.tup [p, q]) false :: zipP ps qs
  | _, _ => []
theorem zipP_len : ∀ (ps qs : List PV), (zipP ps qs).length = min ps.length qs.length
  | p :: ps, q :: qs => by simp [zipP, zipP_len, Nat.succ_min_succ]
  | [], _ => by simp [zipP]
  | _ :: _, [] => by simp [zipP]
theorem zipP_get : ∀ {ps qs : List PV} {i : Nat} {x : AV}, (zipP ps qs)[i]? = some x → ∃ p q, ps[i]? = some p ∧ qs[i]? = some q ∧ x = .v (.tup [p, q]) false
  | p :: ps, q :: qs, 0, x, e => by cases e; exact ⟨p, q, rfl, rfl, rfl⟩
  | p :: ps, q :: qs, i + 1, x, e => zipP_get (ps := ps) (qs := qs) (i := i) e
  | [], _, _, _, e => by simp [zipP] at e
  | _ :: _, [], _, _, e => by simp [zipP] at e
theorem walk_zip {a b : Addr} {ps qs : List PV} : WalkA c (Itz c.K a b) (zipP ps qs) (fun F m N H => LA c a ps F m N H ∧ LA c b qs F m N H) where
  stay := fun F m N H m' N' H' s h => ⟨h.1.stay s, h.2.stay s⟩
  av := fun F m N H b hb h => ⟨h.1.av hb, h.2.av hb⟩
  over := fun F m N H D acc acc' hz hD h => ⟨h.1.over hz hD, h.2.over hz hD⟩
  stop := fun F m st S σ H hc R h => by
    obtain ⟨vs, h1, h2⟩ := h.1.sq
    obtain ⟨us, h3, h4⟩ := h.2.sq
    refine ⟨vs, us, h1, h3, ?_⟩
    rw [zipP_len, ← Vls.length h2, ← Vls.length h4]
    rcases Nat.le_total ps.length qs.length with l | l
    · exact .inl (by rw [Nat.min_eq_left l]; exact Nat.le_refl _)
    · exact .inr (by rw [Nat.min_eq_right l]; exact Nat.le_refl _)
  go := fun F m st S σ H i x hc R h e => by
    obtain ⟨vs, h1, h2⟩ := h.1.sq
    obtain ⟨us, h3, h4⟩ := h.2.sq
    obtain ⟨p, q, e1, e2, _⟩ := zipP_get e
    obtain ⟨v, f1, _⟩ := Vls.get h2 e1
    obtain ⟨u, f2, _⟩ := Vls.get h4 e2
    exact ⟨vs, us, v, u, h1, h3, f1, f2⟩
  yld := fun F m st S σ H i x v H' hc R h e y => by
    obtain ⟨vs, h1, h2⟩ := h.1.sq
    obtain ⟨us, h3, h4⟩ := h.2.sq
    obtain ⟨p, q, e1, e2, rfl⟩ := zipP_get e
    obtain ⟨v, f1, g1⟩ := Vls.get h2 e1
    obtain ⟨u, f2, g2⟩ := Vls.get h4 e2
    obtain ⟨T, x, y', rfl, hT, rfl, y1, y2⟩ := y
    have := y1 vs h1
    rw [f1] at this; cases this
    have := y2 us h3
    rw [f2] at this; cases this
    exact tupAt (c := c) hT (.cons g1 (.cons g2 .nil))
theorem walk_zipT {a b : Addr} {ps qs : List PV} : WalkA c (RZ.ItzT c.K a b) (zipP ps qs) (fun F m N H => TpA c a ps F m N H ∧ TpA c b qs F m N H) where
  stay := fun F m N H m' N' H' s h => ⟨h.1.stay s, h.2.stay s⟩
  av := fun F m N H b hb h => ⟨h.1.av hb, h.2.av hb⟩
  over := fun F m N H D acc acc' hz hD h => ⟨h.1.over hz hD, h.2.over hz hD⟩
  stop := fun F m st S σ H hc R h => by
    obtain ⟨vs, _, h1, h2⟩ := h.1.at_
    obtain ⟨us, _, h3, h4⟩ := h.2.at_
    refine ⟨vs, us, h1, h3, ?_⟩
    rw [zipP_len, ← Vls.length h2, ← Vls.length h4]
    rcases Nat.le_total ps.length qs.length with l | l
    · exact .inl (by rw [Nat.min_eq_left l]; exact Nat.le_refl _)
    · exact .inr (by rw [Nat.min_eq_right l]; exact Nat.le_refl _)
  go := fun F m st S σ H i x hc R h e => by
    obtain ⟨vs, _, h1, h2⟩ := h.1.at_
    obtain ⟨us, _, h3, h4⟩ := h.2.at_
    obtain ⟨p, q, e1, e2, _⟩ := zipP_get e
    obtain ⟨v, f1, _⟩ := Vls.get h2 e1
    obtain ⟨u, f2, _⟩ := Vls.get h4 e2
    exact ⟨vs, us, v, u, h1, h3, f1, f2⟩
  yld := fun F m st S σ H i x v H' hc R h e y => by
    obtain ⟨vs, _, h1, h2⟩ := h.1.at_
    obtain ⟨us, _, h3, h4⟩ := h.2.at_
    obtain ⟨p, q, e1, e2, rfl⟩ := zipP_get e
    obtain ⟨v, f1, g1⟩ := Vls.get h2 e1
    obtain ⟨u, f2, g2⟩ := Vls.get h4 e2
    obtain ⟨T, x, y', rfl, hT, rfl, y1, y2⟩ := y
    have := y1 vs h1
    rw [f1] at this; cases this
    have := y2 us h3
    rw [f2] at this; cases this
    exact tupAt (c := c) hT (.cons g1 (.cons g2 .nil))
def dZip (da : DA) : DA := fun S st => (da S st).then fun xs st1 => match xs with
  | [x, y] => match seqP x, seqP y with
    | some (true, ps), some (true, qs) => .ok (zipP ps qs) st1
    | some (false, ps), some (false, qs) => .ok (zipP ps qs) st1
    | _, _ => .bad
  | _ => .bad
theorem pia_zip {elts : List Expr} {kk} {tpos : Pos} (hK : c.K = X.K) (hm : X.mg "zip" = none) (he : PAA X c W [e, e2] da) (hg : Gl X "zip" := by rfl) (hs : starEach [e, e2] X.env = (false, eval e X.env) :: starEach [e2] X.env := by rfl) (hpl : (backTo pos (starEach [e2] X.env)).any (·.1) = false := by rfl) : PIA X c W (.Tuple elts kk tpos) (.Call (.Name "zip" p) [e, e2] [] pos) (dZip da) :=
  (RZ.pi_zipA hg hm he hs hpl).imp fun σ H R ⟨F, m, s, S, hc, R0, P⟩ => ⟨F, m, s, S, hc, R0, (PostI.bind P).imp fun v H1 ⟨m1, s1, xs, _, a1, R1, r1, P1⟩ => by
    rw [← hK]
    split at P1
    · rename_i x y
      cases r1 with
      | cons r1 t =>
      cases t with
      | cons r2 t =>
      cases t
      split at P1
      · rename_i ps qs q1 q2
        obtain ⟨a, rfl, h⟩ := seqP_ok hc r1 q1
        obtain ⟨b, rfl, h'⟩ := seqP_ok hc r2 q2
        have h : LA c a ps F m1 s1.length H1 := h
        have h' : LA c b qs F m1 s1.length H1 := h'
        obtain ⟨vs, h1, h2⟩ := h.sq
        obtain ⟨us, h3, h4⟩ := h'.sq
        exact ⟨a, b, vs, us, rfl, .inl ⟨h1, h3, PostI.here P1 R1 walk_zip ⟨h, h'⟩⟩⟩
      · rename_i ps qs q1 q2
        obtain ⟨a, rfl, h⟩ := seqP_ok hc r1 q1
        obtain ⟨b, rfl, h'⟩ := seqP_ok hc r2 q2
        have h : TpA c a ps F m1 s1.length H1 := h
        have h' : TpA c b qs F m1 s1.length H1 := h'
        obtain ⟨vs, _, h1, h2⟩ := h.at_
        obtain ⟨us, _, h3, h4⟩ := h'.at_
        exact ⟨a, b, vs, us, rfl, .inr ⟨h1, h3, PostI.here P1 R1 walk_zipT ⟨h, h'⟩⟩⟩
      · exact P1.elim
    · exact P1.elim⟩
end
end A

/-! The A-layer, part 12: what is never reached; list(range(..)), list(reversed(..)). -/
namespace A
open PySem PySem.Spec PyProof.Rows L2
def dBad : DS := fun _ _ => .bad
theorem psa_bad {X : Cx} {c : Ct} {W : WX} {s : Stmt} : PSA X c W s dBad := ⟨fun pins s σ H D I ⟨F, m, st, S, hc, R, P⟩ => P.elim⟩
section
variable {X : Cx} {c : Ct} {W : WX} {a b e : Expr} {da db de : DE} {p p2 pos pos2 : Pos}
/-- list(range(i, j)) -/
def fRgL (r : Bool) (i j : Int) (st : Store) : Res AV := bif bnd i && bnd j && Nat.ble (j - i).toNat 1000000 then newL r (rangeL i (j - i).toNat) st else .bad
theorem rg_avls {F : Fix} {m : Nat → Addr} {N : Nat} {H : Hp} (i j : Int) : AVls0 F m N H (rangeL i (j - i).toNat) (rgV i j) := by
  unfold rangeL rgV
  generalize List.range (j - i).toNat = l
  induction l with
  | nil => exact .nil
  | cons x l ih => exact .cons (.v (.int _)) ih
theorem rg_ok (r : Bool) {F : Fix} {m : Nat → Addr} {st : Store} {S : Slots} {σ : St} {H : Hp} {Q : VK} {i j : Int} (R : Rel F m st S σ H) (P : PostE rV W F m st.length H S σ (fRgL r i j st) Q) : RgOk i j ∧ ∀ q, H q = none → Q (.ref q) (upd H q (.lst (rgV i j))) := by
  unfold fRgL at P
  cases q : bnd i && bnd j && Nat.ble (j - i).toNat 1000000 with
  | false => rw [q] at P; exact P.elim
  | true =>
    rw [q] at P
    rw [Bool.and_eq_true, Bool.and_eq_true] at q
    have h1 := bnd_ok q.1.1
    have h2 := bnd_ok q.1.2
    have h3 := Nat.le_of_ble_eq_true q.2
    exact ⟨⟨h1.1, h1.2, h2.1, h2.2, Nat.le_trans h3 (by decide)⟩, fun q hq => newL_ok R hq (rg_avls i j) P⟩
def dListRg2 (r : Bool) (da db : DE) : DE := fun S st => (da S st).then fun x st1 => (db S st1).then fun y st2 => match fInts x, fInts y with
  | some i, some j => fRgL r i j st2
  | _, _ => .bad
theorem pea_listRg2 (r : Bool) (cn : Cn X c) (hm : X.mg "list" = none) (hm2 : X.mg "range" = none) (ha : PEA X c W a da) (hb : PEA X c W b db) (hg : Gl X "list" := by rfl) (hg2 : Gl X "range" := by rfl)
    (n1 : starEach [.Call (.Name "range" p2) [a, b] [] pos2] X.env = (false, eval (.Call (.Name "range" p2) [a, b] [] pos2) X.env) :: starEach [] X.env := by rfl) (n2 : starEach [a, b] X.env = (false, eval a X.env) :: starEach [b] X.env := by rfl)
    (n3 : starEach [b] X.env = (false, eval b X.env) :: starEach [] X.env := by rfl) (n4 : (backTo pos2 (starEach [b] X.env)).any (·.1) = false := by rfl) :
    PEA X c W (.Call (.Name "list" p) [.Call (.Name "range" p2) [a, b] [] pos2] [] pos) (dListRg2 r da db) := (pe_listRg cn.calm hg hm (prg_2 hg2 hm2 ha hb n2 n3 n4) n1).imp fun σ H Q ⟨F, m, s, S, hc, R, P⟩ =>
  ⟨F, m, s, S, hc, R, (PostE.bind P).imp fun v H1 ⟨m1, s1, x, _, a1, R1, r1, P1⟩ => ⟨F, m1, s1, S, hc, R1, (PostE.bind P1).imp fun w H2 ⟨m2, s2, y, _, a2, R2, r2, P2⟩ => by
    have r1 := AVal.step a2 r1
    cases q1 : fInts x with
    | none => rw [q1] at P2; exact P2.elim
    | some i =>
      cases q2 : fInts y with
      | none => rw [q1, q2] at P2; exact P2.elim
      | some j =>
        rw [q1, q2] at P2
        exact ⟨i, j, fInts_ok r1 q1, fInts_ok r2 q2, rg_ok r R2 P2⟩⟩⟩
def dListRg1 (r : Bool) (da : DE) : DE := fun S st => (da S st).then fun x st1 => match fInts x with
  | some j => fRgL r 0 j st1
  | _ => .bad
theorem pea_listRg1 (r : Bool) (cn : Cn X c) (hm : X.mg "list" = none) (hm2 : X.mg "range" = none) (ha : PEA X c W a da) (hg : Gl X "list" := by rfl) (hg2 : Gl X "range" := by rfl)
    (n1 : starEach [.Call (.Name "range" p2) [a] [] pos2] X.env = (false, eval (.Call (.Name "range" p2) [a] [] pos2) X.env) :: starEach [] X.env := by rfl) (n2 : starEach [a] X.env = (false, eval a X.env) :: starEach [] X.env := by rfl) :
    PEA X c W (.Call (.Name "list" p) [.Call (.Name "range" p2) [a] [] pos2] [] pos) (dListRg1 r da) := (pe_listRg cn.calm hg hm (prg_1 hg2 hm2 ha n2) n1).imp fun σ H Q ⟨F, m, s, S, hc, R, P⟩ =>
  ⟨F, m, s, S, hc, R, (PostE.bind P).imp fun v H1 ⟨m1, s1, x, _, a1, R1, r1, P1⟩ => by
    cases q1 : fInts x with
    | none => rw [q1] at P1; exact P1.elim
    | some i =>
      rw [q1] at P1
      exact ⟨i, fInts_ok r1 q1, rg_ok r R1 P1⟩⟩
end
/-! ### list(reversed(xs)) -/
section
variable {prog : Program} {w : World} {A0 : Around} {E : Value → Shared → Prop} {s : Shared}
/-- the new list S drawn full from the iterator -/
theorem fill_rev {K : Result → Shared → Prop} {it l S : Addr} {c0 : Nat} {items : Array Value} (quiet : A0.handled = none) (hit : s.heap.IsRevIter it l ((items.size : Int) - 1)) (hl : s.heap.IsList l items) (ne : l ≠ it) (few : items.size ≤ sizeLine) (nS : S ≠ it) (nl : S ≠ l)
    (new : s.heap.get? S = some { cls := .type "list", data := .seq #[] c0 })
    (done : ∀ (g : Heap) (tk : Nat) (got : Array Value) (c1 : Nat), (∀ b o, b ≠ S → b ≠ it → s.heap.get? b = some o → g.get? b = some o) → g.get? S = some { cls := .type "list", dict := none, data := .seq got c1, slots := #[] } →
      ItemsOf (fun i v => items[items.size - 1 - i]? = some v) got items.size → K (.ok (.ret .none)) { s with heap := g, toks := tk }) :
    wpAny (model prog w) A0.in1 (Builtin.List.listExtendWith (.ref S) (.ref it) .none)
      (fun fin s' => match fin with | .done f => K (.ok f) s' | .again c' => c'.quiet = true ∧ codeAny (model prog w) A0 c' K s') (fun e s' => K (.error e) s') s := by
  have walk := (Walks.listRev (prog := prog) (w := w) (A := A0.in1) quiet it l ne items).toS
  have ty : s.TypeIs (.ref it) "list_reverseiterator" := Heap.IsRevIter.typeIs hit
  have two : S ∉ [it, l] := fun z => (List.mem_cons.mp z).elim nS fun z => nl (List.mem_singleton.mp z)
  have other : Builtin.List.listSameRef (.ref S) (.ref it) = false := by simp [Builtin.List.listSameRef, nS]
  have zero : (items.size : Int) - 1 - ((0 : Nat) : Int) = (items.size : Int) - 1 := by omega
  unfold Builtin.List.listExtendWith
  apply wpAny_bind; apply wpAny_typeOf ty
  rw [if_neg (by rw [other]; decide)]
  apply wpAny_bind; apply wpAny_pyIter_revIter hit
  apply wpAny_bind; apply wpAny_holding
  unfold Builtin.List.listLengthHint
  apply wpAny_bind; apply wpAny_specialOf ty RT.nolen_lri
  show wpAny _ A0.in1 (specialOf (Value.ref it) (Str.ofString "__length_hint__") >>= _) _ _ _
  apply wpAny_bind; apply wpAny_specialOf ty RT.hint_lri
  generalize ei : ("list_reverseiterator.__length_hint__" : String) = mark
  wp_delta
  rw [show splitId mark = some ("list_reverseiterator", "__length_hint__") from by subst ei; decide +kernel]
  subst ei
  apply wpAny_bind; apply wpAny_isInstance (b := true) ty (by rw [isSubtype_type]; kernel_rfl)
  apply wpAny_pure
  rw [if_neg (by decide)]
  refine wpAny_pure ⟨plainId_quiet F.plain_extend_loop _, codeAny_extend_loopS walk few _ two _ items.size 0 _ _ _ rfl (Nat.zero_le _) ⟨Nat.zero_le _, by rw [zero]; exact hit, hl⟩ new (ItemsOf.nil _) fun s' got c1 mv end_ full => ?_⟩
  rw [Moved.eq_with mv]
  refine done s'.heap s'.toks got c1 (fun b o h1 h2 e => mv.heap b o (fun z => ?_) e) end_ full
  rcases List.mem_cons.mp z with z | z
  · exact h1 z
  · exact h2 (List.mem_singleton.mp z)
theorem call_list_rev {it l : Addr} {items : Array Value} {Q : Value → Shared → Prop} (quiet : A0.handled = none) (hit : s.heap.IsRevIter it l ((items.size : Int) - 1)) (hl : s.heap.IsList l items) (ne : l ≠ it) (few : items.size ≤ sizeLine)
    (done : ∀ (g : Heap) (tk : Nat) (got : Array Value) (c1 : Nat), (∀ b o, b ≠ it → s.heap.get? b = some o → g.get? b = some o) → g.get? s.heap.objs.size = some { cls := .type "list", dict := none, data := .seq got c1, slots := #[] } →
      ItemsOf (fun i v => items[items.size - 1 - i]? = some v) got items.size → Q (.ref s.heap.objs.size) { s with heap := g, toks := tk }) :
    wpAny (model prog w) A0 (call (.type "list") [.ref it]) Q E s := by
  refine callType_codes (Q₁ := fun v s1 => v = .ref s.heap.objs.size ∧ s1 = { s with heap := s.heap.push { cls := .type "list", data := .seq #[] } }) F.called_list (F.typeCall_list_1 _) F.entry_list_init (code_list_new _ ⟨rfl, rfl⟩) fun v s1 made => ?_
  obtain ⟨rfl, rfl⟩ := made
  have new : (s.heap.push { cls := .type "list", data := .seq #[] }).get? s.heap.objs.size = some { cls := .type "list", data := .seq #[] } := Heap.get?_push_size _ rfl
  have lit : it < s.heap.objs.size := by
    obtain ⟨o, ho, _⟩ := hit
    exact Heap.lt_size ho
  have ll : l < s.heap.objs.size := by
    obtain ⟨o, ho, _⟩ := id hl
    exact Heap.lt_size ho
  refine ⟨⟨_, new, rfl⟩, F.args_list_init_2 _ _, ?_⟩
  show wpAny _ _ (do let old ← Builtin.List.listItems (.ref s.heap.objs.size); Builtin.List.listUpdate (.ref s.heap.objs.size) (fun _ => #[]); letGo old.toList.reverse; Builtin.List.listExtendWith (.ref s.heap.objs.size) (.ref it) .none) _ _ _
  apply wpAny_bind
  unfold Builtin.List.listItems
  refine wpAny_bind (wpAny_seqItems new rfl (wpAny_pure ?_))
  show wpAny _ _ (updateSeq s.heap.objs.size (fun _ => #[]) >>= fun _ => letGo (#[] : Array Value).toList.reverse >>= fun _ => Builtin.List.listExtendWith (.ref s.heap.objs.size) (.ref it) .none) _ _ _
  apply wpAny_bind; apply wpAny_updateSeq new rfl
  have new2 := Heap.get?_update_self (Obj.mapSeq (fun _ => (#[] : Array Value))) new rfl
  have rest : ∀ b o, b ≠ s.heap.objs.size → s.heap.get? b = some o → ((s.heap.push { cls := .type "list", data := .seq #[] }).update s.heap.objs.size (Obj.mapSeq (fun _ => (#[] : Array Value)))).get? b = some o :=
    fun b o n e => (Heap.get?_update_other _ _ (Ne.symm n)).trans (Heap.get?_push_of_some _ e)
  apply wpAny_bind; apply wpAny_letGo
  have hit2 : ((s.heap.push { cls := .type "list", data := .seq #[] }).update s.heap.objs.size (Obj.mapSeq (fun _ => (#[] : Array Value)))).IsRevIter it l ((items.size : Int) - 1) := hit.at fun o e => rest it o (Nat.ne_of_lt lit) e
  refine fill_rev (A0 := A0.in1) (s := { s with heap := (s.heap.push { cls := .type "list", data := .seq #[] }).update s.heap.objs.size (Obj.mapSeq (fun _ => (#[] : Array Value))) }) quiet hit2 ?_ ne few (Nat.ne_of_gt lit) (Nat.ne_of_gt ll) new2 fun g tk got c1 hk hS full => ?_
  · obtain ⟨o, ho, r⟩ := id hl
    exact ⟨o, rest l o (Nat.ne_of_lt ll) ho, r⟩
  · exact ⟨rfl, done g tk got c1 (fun b o n e => hk b o (Nat.ne_of_lt (Heap.lt_size e)) n (rest b o (Nat.ne_of_lt (Heap.lt_size e)) e)) hS full⟩
end
section
variable {X : Cx} {c : Ct} {W : WX} {e : Expr} {de : DE} {p p2 pos pos2 : Pos}
def tLstRev (K : PySem.W.Frag) (te : TE) : TE := fun σ H Q => te σ H fun v H1 => ∃ (a : Addr) (xs : List V), v = .ref a ∧ SqL K H1 a xs ∧ ∀ q, H1 q = none → Q (.ref q) (upd H1 q (.lst xs.reverse))
theorem pe_lstRev {te : TE} (hc : X.calm = true) (g1 : Gl X "list") (m1 : X.mg "list" = none) (g2 : Gl X "reversed") (m2 : X.mg "reversed" = none) (he : PE X e te) (n1 : starEach [e] X.env = (false, eval e X.env) :: starEach [] X.env := by rfl)
    (n2 : starEach [.Call (.Name "reversed" p2) [e] [] pos2] X.env = (false, eval (.Call (.Name "reversed" p2) [e] [] pos2) X.env) :: starEach [] X.env := by rfl) :
    PE X (.Call (.Name "list" p) [.Call (.Name "reversed" p2) [e] [] pos2] [] pos) (tLstRev X.K te) := by
  constructor
  intro pins s σ H Q I h
  have inner : ∀ R : Value → Shared → Prop, (∀ (s1 : Shared) (H1 : Hp) (a : Addr) (xs : List V) (its : List Value), Inv X pins σ H1 s1 → Vals xs its → s1.heap.IsList a its.toArray → xs.length ≤ sizeLine → (∀ q, H1 q = none → Q (.ref q) (upd H1 q (.lst xs.reverse))) →
      R (.ref s1.heap.objs.size) { s1 with heap := s1.heap.push (revObj a ((its.toArray.size : Int) - 1)) }) → wpAny (model X.prog X.w) X.A (eval (.Call (.Name "reversed" p2) [e] [] pos2) X.env) R X.xe s := fun R hR => by
    refine Call_ (ld_blt I g2 m2 PyProof.Rows.boot_reversed (PyProof.Rows.callWith_type1 (args_cons (thn (he.run pins s σ H _ I h) fun u s1 ⟨v, H1, I1, r1, q1⟩ => args_nil ?_) n1) n1 rfl))
    obtain ⟨a, xs, ev, hq, q⟩ := q1
    subst ev
    obtain rfl : u = Value.ref a := r1
    obtain ⟨its, rv, p', hz⟩ := I1.list hq
    exact call_reversed_list p'.isList (hR s1 H1 a xs its I1 rv p'.isList hz q)
  refine Call_ (ld_blt I g1 m1 boot_list (PyProof.Rows.callWith_type1 (args_cons (inner _ fun s1 H1 a xs its I1 rv hl hz q => args_nil ?_) n2) n2 rfl))
  have I2 : Inv X pins σ H1 { s1 with heap := s1.heap.push (revObj a ((its.toArray.size : Int) - 1)) } := I1.kept (t' := s1.toks) fun b o e => Heap.get?_push_of_some _ e
  obtain ⟨f0, f1, f2, f3, f4, f5⟩ := I1.fpOk (H' := H1) (b := s1.heap.objs.size) (Nat.le_refl _) (I1.hok.fresh (Nat.le_refl _))
  have far : a ≠ s1.heap.objs.size := by
    obtain ⟨o, ho, _⟩ := id hl
    exact Nat.ne_of_lt (Heap.lt_size ho)
  have hO := I1.hok.fresh (Nat.le_refl s1.heap.objs.size)
  refine call_list_rev (s := { s1 with heap := s1.heap.push (revObj a ((its.toArray.size : Int) - 1)) }) (I1.ok.hd hc) ⟨_, Heap.get?_push_size _ rfl, rfl, rfl⟩ (hl.push _) far (by rw [List.size_toArray, ← rv.length]; exact hz) fun g tk got c1 hk hS full => ?_
  generalize hb : s1.heap.push (revObj a ((its.toArray.size : Int) - 1)) = h2 at *
  have hn : H1 h2.objs.size = none := I2.hok.fresh (Nat.le_refl _)
  have S1 : (h2.push { cls := .type "list", dict := none, data := .seq got c1, slots := #[] }).get? h2.objs.size = some { cls := .type "list", dict := none, data := .seq got c1, slots := #[] } := Heap.get?_push_size _ rfl
  have I3 : Inv X pins σ (upd H1 h2.objs.size (.lst xs.reverse)) { s1 with heap := h2.push { cls := .type "list", dict := none, data := .seq got c1, slots := #[] }, toks := tk } :=
    I2.laid (t' := tk) (fun b o e => Heap.get?_push_of_some _ e) (Nat.le_refl _) (show ObjOk X.prog X.w _ _ _ (.lst xs.reverse) from ⟨by rw [List.length_reverse]; exact hz, got.toList, c1, RT.vals_rev rv full, by rw [Array.toArray_toList]; exact S1⟩)
  have hi2 : s1.heap.objs.size ≠ h2.objs.size := by rw [← hb, Heap.size_push]; exact Nat.ne_of_lt (Nat.lt_succ_self _)
  have I4 : Inv X pins σ (upd H1 h2.objs.size (.lst xs.reverse)) { s1 with heap := g, toks := tk } := by
    have keep : ∀ b o, b ≠ s1.heap.objs.size → (h2.push { cls := .type "list", dict := none, data := .seq got c1, slots := #[] }).get? b = some o → g.get? b = some o := fun b o n e => by
      rcases Heap.get?_push_cases e with ⟨rfl, rfl⟩ | e
      · exact hS
      · exact hk b o n e
    exact Inv.turned (s := { s1 with heap := h2.push { cls := .type "list", dict := none, data := .seq got c1, slots := #[] }, toks := tk }) I3 (h' := g) (it := s1.heap.objs.size) (t' := tk) keep (by rw [upd_ne hi2]; exact f0) f1 f3 f4 f5
  exact ⟨.ref _, _, I4, rfl, q _ hn⟩
def dLstRev (r : Bool) (de : DE) : DE := fun S st => (de S st).then fun x st1 => match listOf st1 x with
  | some xs => newL r xs.reverse st1
  | none => .bad
theorem pea_lstRev (r : Bool) (cn : Cn X c) (m1 : X.mg "list" = none) (m2 : X.mg "reversed" = none) (he : PEA X c W e de) (g1 : Gl X "list" := by rfl) (g2 : Gl X "reversed" := by rfl) (n1 : starEach [e] X.env = (false, eval e X.env) :: starEach [] X.env := by rfl)
    (n2 : starEach [.Call (.Name "reversed" p2) [e] [] pos2] X.env = (false, eval (.Call (.Name "reversed" p2) [e] [] pos2) X.env) :: starEach [] X.env := by rfl) :
    PEA X c W (.Call (.Name "list" p) [.Call (.Name "reversed" p2) [e] [] pos2] [] pos) (dLstRev r de) := (pe_lstRev cn.calm g1 m1 g2 m2 he n1 n2).imp fun σ H Q ⟨F, m, s, S, hc, R, P⟩ =>
  ⟨F, m, s, S, hc, R, (PostE.bind P).imp fun v H1 ⟨m1, s1, x, _, a1, R1, r1, P1⟩ => by
    cases q : listOf s1 x with
    | none => rw [q] at P1; exact P1.elim
    | some xs =>
      rw [q] at P1
      obtain ⟨a, vs, rfl, ha, rr⟩ := listOf_ok R1 r1 q
      exact ⟨a, vs, rfl, SqL.of ha, fun q hq => newL_ok R1 hq (pairedRev rr) P1⟩⟩
end
end A

/-! The A-layer, part 13: names unpacked from a tuple or a list. -/
namespace A
open PySem PySem.Spec PyProof.Rows L2
theorem _root_.L2.PG.or {X : Cx} {e : Expr} {t t' : TG} (h : PG X e t) (h' : PG X e t') : PG X e fun v σ H Q => t v σ H Q ∨ t' v σ H Q := ⟨fun pins s σ H v u Q I r hw => hw.elim (h.run pins s σ H v u Q I r) (h'.run pins s σ H v u Q I r)⟩
section
variable {X : Cx} {c : Ct} {es : List Expr} {pos : Pos}
def unP : AV → Option (List PV)
  | .v (.tup ps) _ => some ps
  | .v (.lst _ ps) _ => some ps
  | _ => none
def gU (n : Nat) (ds : DGs) : DG := fun x S => match unP x with
  | some ps => bif Nat.beq ps.length n then ds (ps.map (AV.v · false)) S else none
  | none => none
theorem pga_un {is : List Nat} {k n : Nat} {ds : DGs} (cn : Cn X c) (h : PGsA X c is es ds) (hn : (assignEach es X.env).length = n := by rfl) (hst : (assignEach es X.env).findIdx? (·.1) = none := by rfl) : PGA X c is (.Tuple es k pos) (gU n ds) :=
  ((pg_tup cn.calm h hn hst).or (pg_lst cn.calm h hn hst)).imp fun v σ H Q ⟨F, m, st, S, x, hc, R, rx, P⟩ => by
    cases q : unP x with
    | none => unfold gU at P; rw [q] at P; exact P.elim
    | some ps =>
      unfold gU at P
      rw [q] at P
      simp only at P
      cases q2 : Nat.beq ps.length n with
      | false => rw [q2] at P; exact P.elim
      | true =>
        rw [q2] at P
        have el := Nat.eq_of_beq_eq_true q2
        unfold unP at q
        split at q
        · cases q
          cases rx with
          | v rx f =>
          cases rx with
          | tup h1 h2 => exact .inl ⟨_, _, rfl, .inl (.inl h1), by rw [← Vls.length h2]; exact el, F, m, st, S, _, hc, R, Vls.avls h2, P⟩
        · cases q
          cases rx with
          | v rx f =>
          cases rx with
          | lst h1 h0 h2 => exact .inr ⟨_, _, rfl, SqL.of h1, by rw [← Vls.length h2]; exact el, F, m, st, S, _, hc, R, Vls.avls h2, P⟩
        · cases q
end
end A

/-! The A-layer, part 14: exceptions of own classes: raised. -/
namespace A
open PySem PySem.Spec PyProof.Rows L2
section
variable {X : Cx} {c : Ct} {W : WX}
/-- C(), an own class of exceptions without a method of its own -/
theorem pmk_own0 {C : Addr} {bmB : List Value} {B newId initId : String} {x : Str} {p pos : Pos} (F : ExcBaseFacts B newId initId bmB) (q : PySem.W.excIn X.K C bmB newId = true) (gC : X.mg x = some (.ref C)) (kC : PySem.W.keepIn X.K (.ref C) = true) (r : Raises X (.ref C)) (hg : Gl X x)
    (hdb : (x == ("__debug__" : Str)) = false := by decide) : PMk X (.Call (.Name x p) [] [] pos) (fun _ H Q => Q (.ref C) none H) := by
  intro pins s σ H Q I h
  apply wpAny_Call_Name_kw
  refine ld_glob I hg gC (PySem.W.callWith_K0 I.kIn kC ?_) hdb
  show wpAny _ _ (call (.ref C) []) _ _ _
  obtain ⟨bm, N, nm, qn, bs, hdct, sn, sub, ab, col, dd, k0, k1, k2, k3, k5, mN, hC, hN, hni, T⟩ := exc_obj I.kIn q
  exact wpAny_call_exc_subT F T hC hN hni (fun g e made => mk_of I made r h (I.hok.gone made.new)) (Nat.zero_le _)
/-- what an own class of exceptions must be -/
structure ExOk (X : Cx) (c : Ct) (C : Nat) (x : Str) : Prop where
  fact : ∃ (bmB : List Value) (B newId initId : String), ExcBaseFacts B newId initId bmB ∧ PySem.W.excIn X.K (c.ca C) bmB newId = true
  glob : X.mg x = some (.ref (c.ca C))
  keep : PySem.W.keepIn X.K (.ref (c.ca C)) = true
  raise : Raises X (.ref (c.ca C))
def dRaise (C : Nat) : DS := fun S st => .ex ⟨C, []⟩ S st
theorem psa_raise (cn : Cn X c) (tk : Takes X W) {C : Nat} {x : Str} {p pos pos' : Pos} (h : ExOk X c C x) (hg : Gl X x := by rfl) (hdb : (x == ("__debug__" : Str)) = false := by decide) : PSA X c W (.Raise (some (.Call (.Name x p) [] [] pos)) none pos') (dRaise C) := by
  obtain ⟨bmB, B, newId, initId, F, q⟩ := h.fact
  refine (ps_raise cn.calm tk (pmk_own0 F q h.glob h.keep h.raise hg hdb)).imp fun D σ H ⟨F0, m, s, S, hc, R, P⟩ => ?_
  have e : ERep F0.c (Lw F0 m s.length) H ⟨C, []⟩ (.ref (c.ca C)) none := by
    rw [hc]
    exact ⟨rfl, .inl ⟨rfl, rfl⟩⟩
  exact P m σ H _ _ Step.refl R e
end
end A

/-! The A-layer, part 15: try .. except C as e, the exception told in the heap from the suite on. -/
namespace A
open PySem PySem.Spec PyProof.Rows L2
def wT (K : PySem.W.Frag) (c : Value) (i : Nat) (ts : Addr → Value → Option Addr → TS) (D : Ends) : WX := fun cls d σ H =>
  PySem.W.exmOne K cls c = some true ∧ ∀ a, H a = none → ts a cls d { nx := fun σ' H' => D.nx (σ'.set i none) H', rt := D.rt, bk := fun σ' H' => D.bk (σ'.set i none) H', ct := fun σ' H' => D.ct (σ'.set i none) H' } (σ.set i (some (.ref a))) (upd H a (ExK cls d a))
section
variable {X : Cx} {pins : List (Addr × Obj)} {σ : St} {H : Hp} {s : Shared}
/-- a thing younger than the entry is told -/
theorem _root_.L2.Inv.tell {a : Addr} {u : HO} (I : Inv X pins σ H s) (young : X.s_0.heap.get? a = none) (na : H a = none) (nL : a ≠ X.env.locals) (nC : ∀ v, ¬ s.heap.IsCell a v) (nP : ∀ p ∈ X.pn ++ pins, p.1 ≠ a) (new : ObjOk X.prog X.w (upd H a u) s.heap a u) : Inv X pins σ (upd H a u) s where
  ok := I.ok
  os := I.os
  bare := I.bare
  base := {
    keep := fun b o e n f x => I.base.keep b o e n f x
    slot := fun b o e n f x => I.base.slot b o e n f x
    free := fun b o e n x => by rw [upd_ne (fun z => by rw [z, young] at e; cases e)]; exact I.base.free b o e n x
    there := fun b o e x => I.base.there b o e x
    tups := fun b xs e => by
      have := I.base.tups b xs e
      rw [upd_ne (ne_of_none this na)]; exact this
    frzs := fun b o xs e => by
      have := I.base.frzs b o xs e
      rw [upd_ne (ne_of_none this na)]; exact this
    tbls := fun b ps e => by
      obtain ⟨more, this⟩ := I.base.tbls b ps e
      exact ⟨more, by rw [upd_ne (ne_of_none this na)]; exact this⟩ }
  loc := I.loc
  cell := I.cell
  free := by rw [upd_ne (Ne.symm nL)]; exact I.free
  freeC := fun x c e => by
    obtain ⟨v, hv⟩ := I.cell x c e
    rw [upd_ne (fun z => by rw [z] at hv; exact nC v hv)]
    exact I.freeC x c e
  pin := fun p hp => by
    obtain ⟨h1, h2, h3⟩ := I.pin p hp
    exact ⟨h1, by rw [upd_ne (nP p hp)]; exact h2, h3⟩
  hok := I.hok.laidN (fun _ _ z => z) na new
  len := I.len
end

section
variable {X : Cx} {x n : Str} {c : Value} {i : Nat} {body suite : List Stmt} {b₀ : Stmt} {np pos pos' : Pos} {tb : WX → TS} {ts : Addr → Value → Option Addr → TS}
theorem sky_new {B : Heap} {l : List Env} {a : Addr} {Z : Obj → Prop} {L : Addr} {h : Heap} (k : Sky B l a Z L h) : B.get? a = none := by
  rcases k with k | k | k
  · exact k.2.1
  · exact k.2.1
  · exact k.2.1
theorem toSuite {pins : List (Addr × Obj)} {σ : St} {H : Hp} {s : Shared} (a : Addr) (I : Inv X pins σ H s) : Inv (X.suite a (X.pn ++ pins)) [] σ H s :=
  ⟨I.ok.suite _ _, I.os, I.bare, I.base, I.loc, I.cell, I.free, I.freeC, fun p hp => I.pin p (by rw [List.append_nil] at hp; exact hp), I.hok, I.len⟩
theorem ofSuite {pins : List (Addr × Obj)} {σ : St} {H : Hp} {s : Shared} {a : Addr} (I : Inv (X.suite a (X.pn ++ pins)) [] σ H s) (ok : X.Ok) : Inv X pins σ H s :=
  ⟨ok, I.os, I.bare, I.base, I.loc, I.cell, I.free, I.freeC, fun p hp => I.pin p (List.mem_append_left _ hp), I.hok, I.len⟩
theorem ps_tryT (hs : X.stack = X.env :: X.outer) (hf : X.env.frame = some X.env.locals) (hN : X.N.Nodup) (hi : X.N[i]? = some n) (hln : X.env.kindOf n = some .local) (hc : Names X x c) (hex : X.ex = [])
    (hb : ∀ (W : WX) (pn : List (Addr × Obj)) (xe : Value → Shared → Prop), Takes (X.tr pn xe) W → PassesOwn (model X.prog X.w) X.A X.env xe → PSs (X.tr pn xe) body (tb W))
    (hsu : ∀ (a : Addr) (cls : Value) (d : Option Addr) (pn : List (Addr × Obj)), PSs (X.suite a pn) (b₀ :: suite) (ts a cls d)) :
    PS X (.Try body [.ExceptHandler (some (.Name x np)) (some n) (b₀ :: suite) pos'] [] [] pos) (fun D σ H => tb (wT X.K c i ts D) D σ H) := by
  constructor
  intro pins s σ H D I h
  have ok := I.ok
  have frames : X.A.frames = some (X.env :: X.outer) := by rw [ok.frames, hs]
  apply wpAny_Try_except
  have run := (hb (wT X.K c i ts D) (X.pn ++ pins) (fun e s₁ => wpAny (model X.prog X.w) X.A (noteFrame e X.env) (fun _ s₂ => wpAny (model X.prog X.w) X.A (setFlight e none) (fun _ s₃ =>
    wpAny (model X.prog X.w) X.A (handleBy e X.env [.ExceptHandler (some (.Name x np)) (some n) (b₀ :: suite) pos']) (SP X pins D) X.xe s₃) X.xe s₂) X.xe s₁) (fun u s' air => ?_) PassesOwn.looking).run [] s σ H D (I.toTry _) h
  · refine wpAny_mono run (fun f s1 hsp => ?_) (fun e s1 he => he)
    cases f with
    | next =>
      obtain ⟨σ', H', J, q⟩ := hsp
      exact wpAny_execs_nil ⟨σ', H', J.ofTry ok, q⟩
    | brk =>
      obtain ⟨σ', H', J, q⟩ := hsp
      exact ⟨σ', H', J.ofTry ok, q⟩
    | cont =>
      obtain ⟨σ', H', J, q⟩ := hsp
      exact ⟨σ', H', J.ofTry ok, q⟩
    | ret u =>
      obtain ⟨v, σ', H', J, r, q⟩ := hsp
      exact ⟨v, σ', H', J.ofTry ok, r, q⟩
  · obtain ⟨a, B, sI, pins', σ', H', cls, d, rfl, J', nb, up, sky, na, os, ag, same, yes⟩ := air
    have J : Inv X pins σ' H' sI := J'.ofTry ok
    have sky2 : Sky B (X.env :: X.outer) a (Zc cls d) X.env.locals s'.heap := by rw [← hs]; exact sky
    have Ba := sky_new sky2
    show wpAny (model X.prog X.w) X.A (noteFrame (.ref a) X.env) _ _ _
    apply Sky.land Zc.steady frames hf sky2
    intro h3 fl3 up3
    have J3 : Inv X pins σ' H' { s' with heap := h3 } := J.landed nb fl3.1 (up.trans up3) os ag
    obtain ⟨o3, vs3, he3, hz3, hd3⟩ := fl3.there
    have far : a ∉ frs (X.env :: X.outer) := fun z => by
      obtain ⟨_, o', e', hnf⟩ := fl3.2.2.1.mem z
      rw [he3] at e'; cases e'
      exact hnf _ hd3
    have nL : a ≠ X.env.locals := fun z => far (List.mem_filterMap.mpr ⟨X.env, List.mem_cons_self, by rw [hf, z]⟩)
    have young1 : sI.heap.get? a = none := by
      cases q : sI.heap.get? a with
      | none => rfl
      | some o =>
        have := nb a o q (by rw [hs]; exact far)
        rw [Ba] at this; cases this
    have young : X.s_0.heap.get? a = none := by
      cases q : X.s_0.heap.get? a with
      | none => rfl
      | some o =>
        obtain ⟨o', e'⟩ := J.base.there a o q (by rw [hex]; exact List.not_mem_nil)
        rw [young1] at e'; cases e'
    have nP : ∀ p ∈ X.pn ++ pins, p.1 ≠ a := fun p hp z => by
      have := (J.pin p hp).1
      rw [z, young1] at this; cases this
    have tell : ∀ (h4 : Heap) (o4 : Obj) (vs4 : Array Value), h4.get? a = some o4 → Zc cls d o4 → o4.data = .fields vs4 → Inv X pins σ' H' { s' with heap := h4 } → Inv X pins σ' (upd H' a (ExK cls d a)) { s' with heap := h4 } := fun h4 o4 vs4 e1 e2 e3 J4 => by
      refine J4.tell young na nL (fun v z => ?_) nP ⟨⟨o4, vs4, e1, e2, e3⟩, ⟨o4, e1⟩, fun h1 h2 ⟨o, vs, k1, k2, k3⟩ keep => ⟨o, vs, keep o k1, k2, k3⟩⟩
      obtain ⟨o, e, dd⟩ := z
      rw [e1] at e; cases e
      rw [e3] at dd; cases dd
    have S3 := toSuite a (tell h3 o3 vs3 he3 hz3 hd3 J3)
    have ty : PySem.W.Looks (model X.prog X.w) h3 (typeOf (.ref a)) cls := fun A Q E s k q => by
      apply wpAny_typeOf_ref (k _ _ he3)
      rw [hz3.1]
      exact q
    have fits := PySem.W.exm_one (M := model X.prog X.w) J3.kIn ty same
    refine wpAny_handleBy_cons (codeAny_handlers_test ?_) (by intro q; cases q)
    have name : ∀ {Q : Value → Shared → Prop} {E : Value → Shared → Prop}, Q c { s' with heap := h3 } → wpAny (model X.prog X.w) (X.A.mark (some (.ref a))) (eval (.Name x np) X.env) Q E { s' with heap := h3 } := fun {Q E} q => by
      obtain ⟨hg, hdbg, hm | ⟨hm, hv, hnn⟩⟩ := hc
      · exact ld_glob (X := X.suite a (X.pn ++ pins)) S3 hg hm q hdbg
      · exact ld_blt (X := X.suite a (X.pn ++ pins)) S3 hg hm hv q hnn hdbg
    apply name
    apply fits.here
    apply codeAny_handlers_suite_as
    apply HandSPX.lands_againZ fl3
    intro h4 fl4 up4
    have J4 : Inv X pins σ' H' { s' with heap := h4 } := J.landed nb fl4.1 ((up.trans up3).trans up4) os ag
    obtain ⟨o4, vs4, he4, hz4, hd4⟩ := fl4.there
    have S4 := toSuite a (tell h4 o4 vs4 he4 hz4 hd4 J4)
    refine store_ok (X := X.suite a (X.pn ++ pins)) (v := .ref a) S4 hN hi (.inl hln) rfl (fun s5 S5 => ?_) (.inr hln)
    refine wpAny_mono ((hsu a cls d (X.pn ++ pins)).run [] s5 _ _ _ S5 (yes a na)) (fun f s6 end6 => ?_) (fun _ _ z => False.elim z)
    have gone : ∀ {σ6 : St} {H6 : Hp} {Q : Shared → Prop}, Inv (X.suite a (X.pn ++ pins)) [] σ6 H6 s6 → (∀ s7, Inv X pins (σ6.set i none) H6 s7 → Q s7) →
        wpAny (model X.prog X.w) X.A (do bindName X.env n .none; unbindBehindTheSuite X.env n pos') (fun _ s7 => Q s7) X.xe s6 := fun {σ6 H6 Q} S6 hq => gone_ok (ofSuite S6 ok) hN hi hln hq
    cases f with
    | next =>
      obtain ⟨σ6, H6, S6, q6⟩ := end6
      exact gone S6 fun s7 J7 => ⟨_, _, J7, q6⟩
    | brk =>
      obtain ⟨σ6, H6, S6, q6⟩ := end6
      exact gone S6 fun s7 J7 => ⟨_, _, J7, q6⟩
    | cont =>
      obtain ⟨σ6, H6, S6, q6⟩ := end6
      exact gone S6 fun s7 J7 => ⟨_, _, J7, q6⟩
    | ret u =>
      obtain ⟨v6, σ6, H6, S6, r6, q6⟩ := end6
      exact gone S6 fun s7 J7 => ⟨_, _, _, J7, r6, q6⟩
end
end A

/-! The A-layer, part 16: try .. except C as e. -/
namespace A
open PySem PySem.Spec PyProof.Rows L2
/-- the body's exceptions that cb tells are caught -/
def dTry (cb : Nat → Bool) (i : Nat) (db ds : DS) : DS := fun S st => match db S st with
  | .ex e S1 st1 => bif cb e.C && e.fs.isEmpty then (match ds (S1.set i (some (.v (.exn e.C) false))) st1 with
    | .nx S2 st2 => .nx (S2.set i none) st2
    | .bk S2 st2 => .bk (S2.set i none) st2
    | .ct S2 st2 => .ct (S2.set i none) st2
    | .rt x st2 => .rt x st2
    | _ => .bad) else .bad
  | r => r
theorem psa_try {X : Cx} {c : Ct} {W : WX} {x n : Str} {cv : Value} {i : Nat} {body suite : List Stmt} {b₀ : Stmt} {np pos pos' : Pos} {db ds : DS} {cb : Nat → Bool} (cn : Cn X c) (hc : Names X x cv) (hcb : ∀ C, cb C = true → PySem.W.exmOne c.K (.ref (c.ca C)) cv = some true)
    (hb : ∀ (W : WX) (pn : List (Addr × Obj)) (xe : Value → Shared → Prop), Takes (X.tr pn xe) W → PassesOwn (model X.prog X.w) X.A X.env xe → PSsA (X.tr pn xe) c W body db) (hsu : ∀ (a : Addr) (pn : List (Addr × Obj)), PSsA (X.suite a pn) c W0 (b₀ :: suite) ds)
    (hs : X.stack = X.env :: X.outer := by rfl) (hf : X.env.frame = some X.env.locals := by rfl) (hex : X.ex = [] := by rfl) (hi : X.N[i]? = some n := by rfl) (hln : X.env.kindOf n = some .local := by rfl) :
    PSA X c W (.Try body [.ExceptHandler (some (.Name x np)) (some n) (b₀ :: suite) pos'] [] [] pos) (dTry cb i db ds) :=
  (ps_tryT (tb := fun W => tS c W db) (ts := fun _ _ _ => tS c W0 ds) hs hf cn.nd hi hln hc hex hb fun a _ _ pn => hsu a pn).imp fun D σ H ⟨F, m, s, S, hcF, R, P⟩ => by
    refine ⟨F, m, s, S, hcF, R, ?_⟩
    unfold dTry at P
    cases e : db S s with
    | nx S1 s1 => rw [e] at P; exact P
    | bk S1 s1 => rw [e] at P; exact P
    | ct S1 s1 => rw [e] at P; exact P
    | rt y s1 => rw [e] at P; exact P
    | bad => rw [e] at P; exact P.elim
    | ex er S1 s1 =>
      rw [e] at P
      simp only at P
      cases q : cb er.C && er.fs.isEmpty with
      | false => rw [q] at P; exact P.elim
      | true =>
        rw [q] at P
        simp only [cond_true] at P
        rw [Bool.and_eq_true] at q
        intro m1 σ1 H1 cls d a1 R1 rep
        obtain ⟨rfl, rep⟩ := rep
        have fs0 : er.fs = [] := by
          cases z : er.fs with
          | nil => rfl
          | cons y ys => rw [z] at q; exact absurd q.2 (by simp)
        refine ⟨by rw [← cn.K, hcF]; exact hcb _ q.1, fun a ha => ?_⟩
        have dn : d = none := by
          rcases rep with ⟨_, z⟩ | ⟨hne, _⟩
          · exact z
          · exact absurd fs0 hne
        subst dn
        have sm := same_upd (o := ExK (.ref (F.c.ca er.C)) none a) ha
        have R2 := (R1.same sm).slot (i := i) (x := .v (.exn er.C) false) (v := .ref a) (.v (.exn upd_same) fun z => nomatch z)
        have P2 := PostS.shift (a1.trans (Step.of (m := m1) (N := s1.length) sm)) P
        refine ⟨F, m1, s1, _, hcF, R2, ?_⟩
        cases e2 : ds (S1.set i (some (.v (.exn er.C) false))) s1 with
        | nx S2 s2 => rw [e2] at P2; exact fun m3 σ3 H3 a3 R3 => P2 m3 _ H3 a3 R3.unslot
        | bk S2 s2 => rw [e2] at P2; exact fun m3 σ3 H3 a3 R3 => P2 m3 _ H3 a3 R3.unslot
        | ct S2 s2 => rw [e2] at P2; exact fun m3 σ3 H3 a3 R3 => P2 m3 _ H3 a3 R3.unslot
        | rt y s2 => rw [e2] at P2; exact P2
        | ex y S2 s2 => rw [e2] at P2; exact P2.elim
        | bad => rw [e2] at P2; exact P2.elim
end A

/-! The A-layer, part 17: the head's facts widened: own classes, exceptions. -/
namespace A
open PySem PySem.Spec PyProof.Rows L2
/-- what the whole proof leans on, own classes too -/
structure PG (g : Gd) (fa : List He.Fa) (fn : List He.DefD) (ex : PySem.W.Frag → Bool) (cx : PySem.W.Frag → Ct) : Prop extends PF g fa fn where
  more : ex g.c.K = true
  ctx : g.c = cx g.c.K
theorem PG.ca {g : Gd} {fa : List He.Fa} {fn : List He.DefD} {ex : PySem.W.Frag → Bool} {cx : PySem.W.Frag → Ct} (T : PG g fa fn ex cx) (C : Nat) : g.c.ca C = (cx g.c.K).ca C := congrArg (fun c => c.ca C) T.ctx
theorem PG.names {g : Gd} {fa : List He.Fa} {fn : List He.DefD} {ex : PySem.W.Frag → Bool} {cx : PySem.W.Frag → Ct} (T : PG g fa fn ex cx) : g.c.names = (cx g.c.K).names := congrArg (fun c => c.names) T.ctx
/-! ### one Bool for the classes -/
def insB (K : PySem.W.Frag) (C : Addr) : Bool := PySem.W.plainGet K C Str.empty && (PySem.W.hasDictIn K C && (PySem.W.plainOver K C && (He.eqO (PySem.W.findIn K (.ref C) "__setattr__") (some (some (.builtin "object.__setattr__"))) && (He.eqO (PySem.W.findIn K (.ref C) "__class__") (some (some (.builtin "object.__class__")))
  && (He.eqO (PySem.W.specialIn K (.builtin "object.__class__") "__get__") (some (some (.builtin "getset_descriptor.__get__"))) && (decide (PySem.W.takesIn K (.builtin "object.__class__") = some true) && decide (PySem.W.mroIn K C (.type "object") = some true)))))))
theorem insB_ok {K : PySem.W.Frag} {C : Addr} (h : insB K C = true) : InsOk K C := by
  obtain ⟨h1, h⟩ := He.ba h
  obtain ⟨h2, h⟩ := He.ba h
  obtain ⟨h3, h⟩ := He.ba h
  obtain ⟨h4, h⟩ := He.ba h
  obtain ⟨h5, h⟩ := He.ba h
  obtain ⟨h6, h⟩ := He.ba h
  obtain ⟨h7, h8⟩ := He.ba h
  exact ⟨⟨h1, h2, h3, He.eqO_ok h4⟩, He.eqO_ok h5, He.eqO_ok h6, of_decide_eq_true h7, of_decide_eq_true h8⟩
def excB (K : PySem.W.Frag) (C : Addr) : Bool := He.eqO (PySem.W.findIn K (.ref C) "__getattribute__") (some (some (.builtin "BaseException.__getattribute__"))) && (He.eqO (PySem.W.findIn K (.ref C) "__getattr__") (some none) && (decide (PySem.W.subIn K (.ref C) (.type "BaseException") = some true)
  && (PySem.W.hasDictIn K C && (He.eqO (PySem.W.findIn K (.ref C) "__class__") (some (some (.builtin "object.__class__"))) && (He.eqO (PySem.W.specialIn K (.builtin "object.__class__") "__get__") (some (some (.builtin "getset_descriptor.__get__")))
  && (decide (PySem.W.takesIn K (.builtin "object.__class__") = some true) && decide (PySem.W.mroIn K C (.type "object") = some true)))))))
theorem excB_ok {K : PySem.W.Frag} {C : Addr} (h : excB K C = true) : ExcC K C := by
  obtain ⟨h1, h⟩ := He.ba h
  obtain ⟨h2, h⟩ := He.ba h
  obtain ⟨h3, h⟩ := He.ba h
  obtain ⟨h4, h⟩ := He.ba h
  obtain ⟨h5, h⟩ := He.ba h
  obtain ⟨h6, h⟩ := He.ba h
  obtain ⟨h7, h8⟩ := He.ba h
  exact ⟨He.eqO_ok h1, He.eqO_ok h2, of_decide_eq_true h3, h4, He.eqO_ok h5, He.eqO_ok h6, of_decide_eq_true h7, of_decide_eq_true h8⟩
/-- the table of classes: built-in ones by themselves, the rest as listed -/
def tbOf (tl : List (Ty × Ty × Bool)) : Ty → Ty → Option Bool := fun t u => match t, u with
  | .b x, .b y => kitB x y
  | t, u => (tl.find? fun q => decide (q.1 = t) && decide (q.2.1 = u)).map (·.2.2)
/-- tl: isinstance; cs: the own classes of values; xl: what an except clause catches -/
def clsB (tl : List (Ty × Ty × Bool)) (cs : List Ty) (xl : List (Nat × Nat)) (c : Ct) : Bool := tl.all (fun q => decide (PySem.W.kitOne c.K (q.1.val c) (q.2.1.val c) = some q.2.2)) && (cs.all (fun t => match t with
    | .o C => insB c.K (c.ca C)
    | .x C => excB c.K (c.ca C)
    | .b _ => true) && xl.all fun q => decide (PySem.W.exmOne c.K (.ref (c.ca q.1)) (.ref (c.ca q.2)) = some true))
section
variable {tl : List (Ty × Ty × Bool)} {cs : List Ty} {xl : List (Nat × Nat)} {c : Ct}
theorem kit_of_b (h : clsB tl cs xl c = true) : KitOk c (tbOf tl) cs := by
  obtain ⟨h1, h⟩ := He.ba h
  obtain ⟨h2, h3⟩ := He.ba h
  refine ⟨fun t u b e => ?_, fun C hC => insB_ok (List.all_eq_true.mp h2 _ hC), fun C hC => excB_ok (List.all_eq_true.mp h2 _ hC)⟩
  unfold tbOf at e
  split at e
  · exact kit_ty e
  · obtain ⟨q, e1, e2⟩ := Option.map_eq_some_iff.mp e
    have z := List.find?_some e1
    rw [Bool.and_eq_true, decide_eq_true_eq, decide_eq_true_eq] at z
    have k := List.all_eq_true.mp h1 q (List.mem_of_find?_eq_some e1)
    rw [decide_eq_true_eq] at k
    rw [← z.1, ← z.2, ← e2]
    exact k
def catch_ (xl : List (Nat × Nat)) (D : Nat) : Nat → Bool := fun C => xl.contains (C, D)
theorem catch_ok (h : clsB tl cs xl c = true) {D C : Nat} (e : catch_ xl D C = true) : PySem.W.exmOne c.K (.ref (c.ca C)) (.ref (c.ca D)) = some true := by
  obtain ⟨_, h⟩ := He.ba h
  obtain ⟨_, h3⟩ := He.ba h
  have := List.all_eq_true.mp h3 (C, D) (by simpa [catch_] using e)
  exact of_decide_eq_true this
end
/-! ### the Hook -/
abbrev AlB : Type := He.AlD × Bool
/-- the defs tf have lambdas: their code objects' tables are empty at the head -/
def obsB (n : Nat) (fa : List He.Fa) (fn : List He.DefD) (ex : PySem.W.Frag → Bool) (tf : List He.Defn) (g : Addr → Option Obj) : AlB := (He.obsD fa fn (He.frT g (He.asD g n)), ex (He.frT g (He.asD g n)) && He.tabsB g tf (He.frT g (He.asD g n)))
structure SaysB (fa : List He.Fa) (fn : List He.DefD) (ex : PySem.W.Frag → Bool) (tf : List He.Defn) (h : Heap) (K : PySem.W.Frag) : Prop where
  c : He.SaysD fa fn K
  more : ex K = true
  hd : ∀ p ∈ tf, PySem.W.codeHdIn K (He.cT K p).1 (He.cT K p).2 = true
  out : ∀ p ∈ tf, K.lookup (He.cT K p).2 = none
  empty : ∀ p ∈ tf, h.get? (He.cT K p).2 = some { cls := .none, data := .fields #[] }
theorem saysB_of {n : Nat} {fa : List He.Fa} {fn : List He.DefD} {ex : PySem.W.Frag → Bool} {tf : List He.Defn} {h : Heap} (e : obsB n fa fn ex tf h.get? = (He.valD fn, true)) : SaysB fa fn ex tf h (He.frT h.get? (He.asD h.get? n)) := by
  have e1 : He.obsD fa fn (He.frT h.get? (He.asD h.get? n)) = He.valD fn := congrArg (fun z : AlB => z.1) e
  have e2 : (ex (He.frT h.get? (He.asD h.get? n)) && He.tabsB h.get? tf (He.frT h.get? (He.asD h.get? n))) = true := congrArg (fun z : AlB => z.2) e
  obtain ⟨h1, h2⟩ := He.ba e2
  have key : ∀ p ∈ tf, PySem.W.codeHdIn (He.frT h.get? (He.asD h.get? n)) (He.cT (He.frT h.get? (He.asD h.get? n)) p).1 (He.cT (He.frT h.get? (He.asD h.get? n)) p).2 = true ∧ ∃ o, h.get? (He.cT (He.frT h.get? (He.asD h.get? n)) p).2 = some o ∧ He.emptyTab o = true := fun p hp => by
    obtain ⟨h3, h4⟩ := He.ba (List.all_eq_true.mp h2 p hp)
    refine ⟨h3, ?_⟩
    cases q : h.get? (He.cT (He.frT h.get? (He.asD h.get? n)) p).2 with
    | none => rw [q] at h4; cases h4
    | some o => rw [q] at h4; exact ⟨o, rfl, h4⟩
  exact ⟨e1, h1, fun p hp => (key p hp).1, fun p hp => by
    obtain ⟨_, o, q, z⟩ := key p hp
    exact He.frT_none q z, fun p hp => by
    obtain ⟨_, o, q, z⟩ := key p hp
    rw [q, He.emptyTab_eq z]⟩
def hookB (n : Nat) (fa : List He.Fa) (fn : List He.DefD) (ex : PySem.W.Frag → Bool) (tf : List He.Defn) : PySem.W.Hook where
  α := AlB
  obs := fun s => obsB n fa fn ex tf s.heap.get?
  val := fun _ => (He.valD fn, true)
  says := fun _ h => ∃ K : PySem.W.Frag, K.In h ∧ SaysB fa fn ex tf h K
  of := fun _ _ e => ⟨_, He.frT_in, saysB_of e⟩
  keeps := fun _ _ _ ⟨K, hK, c⟩ k => ⟨K, PySem.W.Frag.In.keeps hK k, ⟨c.c, c.more, c.hd, c.out, fun p hp => k _ _ (c.empty p hp)⟩⟩
theorem obsB_eq {n : Nat} {fa : List He.Fa} {fn : List He.DefD} {ex : PySem.W.Frag → Bool} {tf : List He.Defn} {g : Addr → Option Obj} {s : Shared} (h : ∀ a, g a = s.heap.get? a) : obsB n fa fn ex tf g = (hookB n fa fn ex tf).obs s := by
  have e : g = s.heap.get? := funext h
  rw [e] <;> rfl
/-- the tables of the defs tf, for the context -/
def ttOf (tf : List (He.Defn × Str)) (K : PySem.W.Frag) : List (Addr × Addr × Str) := tf.map fun q => ((He.cT K q.1).1, (He.cT K q.1).2, q.2)
theorem SaysB.tabs {fa : List He.Fa} {fn : List He.DefD} {ex : PySem.W.Frag → Bool} {tf : List (He.Defn × Str)} {h : Heap} {c : Ct} (s : SaysB fa fn ex (tf.map (·.1)) h c.K) (X : c.K.In h) (e : c.TT = ttOf tf c.K) : Tabs0 c h := by
  have mem : ∀ q ∈ c.TT, ∃ p ∈ tf.map (·.1), q.1 = (He.cT c.K p).1 ∧ q.2.1 = (He.cT c.K p).2 := fun q hq => by
    rw [e] at hq
    obtain ⟨p, hp, z⟩ := List.mem_map.mp hq
    exact ⟨p.1, List.mem_map.mpr ⟨p, hp, rfl⟩, by rw [← z], by rw [← z]⟩
  refine ⟨fun q hq => ?_, fun q hq => ?_, fun q hq => ?_⟩
  · obtain ⟨p, hp, e1, e2⟩ := mem q hq
    rw [e2]; exact s.empty p hp
  · obtain ⟨p, hp, e1, e2⟩ := mem q hq
    rw [e2]; exact s.out p hp
  · obtain ⟨p, hp, e1, e2⟩ := mem q hq
    rw [e1, e2]; exact PySem.W.codeHd_of_K X (s.hd p hp)
/-! ### exceptions -/
section
variable {g : Gd} {fa : List He.Fa} {fn : List He.DefD} {ex : PySem.W.Frag → Bool} {cx : PySem.W.Frag → Ct} {X : Cx}
theorem exOk (cg : Cg X g) (T : PG g fa fn ex cx) {C : Nat} {x : Str} (i j : Nat) (hca : ∀ K, (cx K).ca C = He.ga K x := by intro _; rfl) (hi : fa[i]? = some (.exc x) := by rfl) (hj : fa[j]? = some (.glo x) := by rfl) : ExOk X g.c C x := by
  have e : g.c.ca C = He.ga g.c.K x := (T.ca C).trans (hca _)
  obtain ⟨h1, h2, h3, h4⟩ := He.exc_ok (T.c.fact i hi)
  refine ⟨⟨_, _, _, _, PySem.F.excBase_ValueError, ?_⟩, ?_, ?_, ?_⟩
  · rw [cg.K, e]; exact h1
  · rw [cg.mg, e]; exact T.glo j hj
  · rw [cg.K, e]; exact h2
  · exact raises_own (by rw [cg.K, e]; exact h3) (by rw [cg.K, e]; exact h4)
theorem namesT (cg : Cg X g) (T : PG g fa fn ex cx) {D : Nat} {x : Str} (j : Nat) (hca : ∀ K, (cx K).ca D = He.ga K x := by intro _; rfl) (hj : fa[j]? = some (.glo x) := by rfl) (hg : Gl X x := by rfl) (hd : (x == ("__debug__" : Str)) = false := by decide) : Names X x (.ref (g.c.ca D)) := by
  have e : g.c.ca D = He.ga g.c.K x := (T.ca D).trans (hca _)
  refine ⟨hg, hd, .inl ?_⟩
  rw [cg.mg, e]; exact T.glo j hj
theorem clsT (cg : Cg X g) (T : PG g fa fn ex cx) {D : Nat} {x : Str} (j : Nat) (hca : ∀ K, (cx K).ca D = He.ga K x := by intro _; rfl) (hj : fa[j]? = some (.glo x) := by rfl) : X.mg x = some (.ref (g.c.ca D)) := by
  rw [cg.mg, (T.ca D).trans (hca _)]; exact T.glo j hj
theorem Cn.tr {c : Ct} (h : Cn X c) {pn : List (Addr × Obj)} {xe : Value → Shared → Prop} (pas : PassesOwn (model X.prog X.w) X.A X.env xe) : Cn (X.tr pn xe) c := ⟨h.K, h.calm, h.nd, pas, h.room, h.no, h.tree, h.stk⟩
theorem Cg.tr (h : Cg X g) {pn : List (Addr × Obj)} {xe : Value → Shared → Prop} (pas : PassesOwn (model X.prog X.w) X.A X.env xe) : Cg (X.tr pn xe) g := ⟨h.P, h.w, h.K, h.mg, h.base, h.calm, h.nd, pas, h.stk⟩
theorem clsS (cg : Cg X g) (T : PG g fa fn ex cx) {D : Nat} {x : Str} {a : Addr} {pn : List (Addr × Obj)} (j : Nat) (hca : ∀ K, (cx K).ca D = He.ga K x := by intro _; rfl) (hj : fa[j]? = some (.glo x) := by rfl) : (X.suite a pn).mg x = some (.ref (g.c.ca D)) := clsT cg T j hca hj
section
variable {c : Ct} {W : WX} {a : Addr} {pn : List (Addr × Obj)} {e o : Expr} {es : List Expr} {de : DE} {da : DA} {pos : Pos}
theorem psa_setS (cn : Cn X c) {i : Nat} {x : Str} {pos' : Pos} (he : PEA (X.suite a pn) c W e de) (hi : X.N[i]? = some x := by rfl) (hx : Loc X.env.scope x := by first | exact Or.inl rfl | exact Or.inr rfl) (hs : swapsWith e (some (.Name x pos')) pos.line X.env = pure false := by rfl)
    (hf : X.fn x = true ∨ X.env.scope.names.lookup x = some .local := by first | exact .inl rfl | exact .inr rfl) : PSA (X.suite a pn) c W (.Assign [.Name x pos'] e pos) (dSet i de) := psa_setQ (X := X.suite a pn) cn.nd he hi hx hs hf
theorem pea_methS {name : Str} {apos cpos : Pos} {id : String} {r : V → List V → Hp → VK → Prop} {f : AV → List AV → Store → Res AV} (cn : Cn X c) (slot : Slot "list" name id) (hty : typeOf (.builtin id) = pure (.type "method_descriptor")) (hm : MtR (X.suite a pn) id r) (hf : MRok c r f) (ho : PEA (X.suite a pn) c W o de) (ha : PAA (X.suite a pn) c W (e :: es) da)
    (hbase : attributeBase o name X.env (eval o X.env) = eval o X.env := by rfl)
    (hfew : ((backTo cpos (starEach (e :: es) X.env)).all (fun x => !x.1) && (backToKw cpos (keywordEach [] X.env)).all (fun x => x.1.isSome)
      && decide ((e :: es).length + ([] : List Keyword).length + (if ([] : List Keyword).isEmpty then 0 else 1) < 30)) = true := by rfl)
    (hline : (apos.endLine == cpos.line) = true := by rfl) (hs : starEach (e :: es) X.env = (false, eval e X.env) :: starEach es X.env := by rfl) (hplain : (backTo cpos (starEach es X.env)).any (·.1) = false := by rfl) :
    PEA (X.suite a pn) c W (.Call (.Attribute o name apos) (e :: es) [] cpos) (dMeth f de da) := pea_methQ (X := X.suite a pn) cn.K slot hty hm hf ho ha hbase hfew hline hs hplain
end
end
end A

/-! The A-layer, part 18: objects: fields, methods, making. -/
namespace A
open PySem PySem.Spec PyProof.Rows L2
/-- f is the field x -/
structure FldOk (c : Ct) (cs : List Ty) (f : Nat) (x : Str) : Prop where
  lt : f < c.names.length
  eq : c.fn f = x
  na : ∀ C, Ty.o C ∈ cs → NoAttr c.K (c.ca C) x
  cl : ∀ C, Ty.o C ∈ cs → Cls c.K (c.ca C)
/-- no class has an attribute of a field's name -/
def fldsB (cs : List Ty) (c : Ct) : Bool := c.names.all fun x => cs.all fun t => match t with
  | .o C => He.eqO (PySem.W.findIn c.K (.ref (c.ca C)) x) (some none)
  | _ => true
theorem fldOk {c : Ct} {cs : List Ty} {tb : Ty → Ty → Option Bool} (kit : KitOk c tb cs) (h : fldsB cs c = true) {f : Nat} {x : Str} (hx : c.names[f]? = some x) : FldOk c cs f x := by
  have hl := (List.getElem?_eq_some_iff.mp hx).1
  refine ⟨hl, ?_, fun C hC => ?_, fun C hC => (kit.ins C hC).cl⟩
  · unfold Ct.fn
    rw [List.getD_eq_getElem?_getD, hx]; rfl
  · have h1 := List.all_eq_true.mp h x (List.mem_of_getElem? hx)
    exact He.eqO_ok (List.all_eq_true.mp h1 _ hC)
/-! ### e.f -/
/-- the field f of an object -/
def fldOf (cs : List Ty) (st : Store) (f : Nat) : AV → Option AV
  | .v (.obj _ C fs xs) _ => bif cs.contains (.o C) then ((fs.zip xs).lookup f).map (AV.v · false) else none
  | .ref n => match st[n]? with
    | some (.ins C fs) => bif cs.contains (.o C) then (fs.lookup f).map strip else none
    | _ => none
  | _ => none
theorem lookup_zip {c : Ct} {L : Bool → Addr → Prop} {H : Hp} {f : Nat} (hf : f < c.names.length) : ∀ {fs : List Nat} {xs : List PV} {vs : List V} {p : PV}, Vls c L H xs vs → (fs.zip xs).lookup f = some p → ∃ v, ((fs.map c.fn).zip vs).lookup (c.fn f) = some v ∧ Val c L H p v
  | [], _, _, _, _, e => by simp at e
  | g :: fs, _, _, _, .nil, e => by simp at e
  | g :: fs, x :: xs, v :: vs, p, .cons h r, e => by
    rw [List.zip_cons_cons] at e
    rw [List.map_cons, List.zip_cons_cons]
    by_cases q : f = g
    · subst q
      simp only [List.lookup, beq_self_eq_true] at e ⊢
      cases e
      exact ⟨v, rfl, h⟩
    · have e1 : (f == g) = false := beq_eq_false_iff_ne.mpr q
      have e2 : (c.fn f == c.fn g) = false := beq_eq_false_iff_ne.mpr fun z => q (Ct.fn_inj c hf z.symm).symm
      simp only [List.lookup, e1] at e
      simp only [List.lookup, e2]
      exact lookup_zip hf r e
theorem lookup_prd {F : Fix} {m : Nat → Addr} {N : Nat} {H : Hp} {f : Nat} (hf : f < F.c.names.length) : ∀ {fs : List (Nat × AV)} {us : List (Str × V)} {y : AV}, Paired (fun (p : Nat × AV) (q : Str × V) => F.c.fn p.1 = q.1 ∧ AVal0 F m N H p.2 q.2) fs us → fs.lookup f = some y → ∃ v, us.lookup (F.c.fn f) = some v ∧ AVal0 F m N H y v
  | _, _, _, .nil, e => by cases e
  | (g, x) :: fs, (k, u) :: us, y, .cons h r, e => by
    obtain ⟨h1, h2⟩ := h
    have h1 : F.c.fn g = k := h1
    subst h1
    by_cases q : f = g
    · subst q
      simp only [List.lookup, beq_self_eq_true] at e ⊢
      cases e
      exact ⟨u, rfl, h2⟩
    · have e1 : (f == g) = false := beq_eq_false_iff_ne.mpr q
      have e2 : (F.c.fn f == F.c.fn g) = false := beq_eq_false_iff_ne.mpr fun z => q (Ct.fn_inj F.c hf z.symm).symm
      simp only [List.lookup, e1] at e
      simp only [List.lookup, e2]
      exact lookup_prd hf r e
def dFld (cs : List Ty) (f : Nat) (de : DE) : DE := fun S st => (de S st).then fun x st1 => match fldOf cs st1 f x with
  | some y => .ok y st1
  | none => .bad
section
variable {X : Cx} {c : Ct} {W : WX} {e o value : Expr} {x : Str} {de dv : DE} {pos pos' : Pos} {cs : List Ty} {f : Nat}
theorem pea_fld (hK : c.K = X.K) (ok : FldOk c cs f x) (he : PEA X c W e de) (hb : attributeBase e x X.env (eval e X.env) = eval e X.env := by rfl) : PEA X c W (.Attribute e x pos) (dFld cs f de) := (pe_fld he hb).imp fun σ H Q ⟨F, m, s, S, hc, R, P⟩ =>
  ⟨F, m, s, S, hc, R, (PostE.bind P).imp fun v H1 ⟨m1, s1, x1, _, a1, R1, r1, P1⟩ => by
    subst hc
    cases q : fldOf cs s1 f x1 with
    | none => rw [q] at P1; exact P1.elim
    | some y =>
      rw [q] at P1
      cases x1 with
      | v p fr =>
        cases p with
        | obj t C fs xs =>
          simp only [fldOf] at q
          cases q1 : cs.contains (Ty.o C) with
          | false => rw [q1] at q; cases q
          | true =>
            rw [q1] at q
            have q1 := List.contains_iff_mem.mp q1
            obtain ⟨p, e1, rfl⟩ := Option.map_eq_some_iff.mp q
            cases r1 with
            | v r1 _ =>
            cases r1 with
            | obj h z l r =>
            obtain ⟨v, e2, hv⟩ := lookup_zip ok.lt r e1
            rw [ok.eq] at e2
            refine ⟨_, _, _, _, v, rfl, h, hK ▸ ok.cl C q1, hK ▸ ok.na C q1, e2, PostE.here P1 R1 (.v hv fun z => nomatch z)⟩
        | _ => cases q
      | ref n =>
        simp only [fldOf] at q
        cases e0 : s1[n]? with
        | none => rw [e0] at q; cases q
        | some ob =>
          rw [e0] at q
          cases ob with
          | ins C fs =>
            simp only at q
            cases q1 : cs.contains (Ty.o C) with
            | false => rw [q1] at q; cases q
            | true =>
              rw [q1] at q
              have q1 := List.contains_iff_mem.mp q1
              obtain ⟨p, e1, rfl⟩ := Option.map_eq_some_iff.mp q
              obtain ⟨u, h1, h2⟩ := R1.sto n _ e0
              cases h2 with
              | ins h2 =>
              obtain ⟨v, e2, hv⟩ := lookup_prd ok.lt h2 e1
              rw [ok.eq] at e2
              cases r1 with
              | ref hn =>
              exact ⟨_, _, _, _, v, rfl, h1, hK ▸ ok.cl C q1, hK ▸ ok.na C q1, e2, PostE.here P1 R1 hv.strip⟩
          | _ => cases q⟩
/-! ### o.f = e -/
def putN (f : Nat) (y : AV) : List (Nat × AV) → List (Nat × AV)
  | [] => [(f, y)]
  | (g, x) :: r => bif decide (g = f) then (g, y) :: r else (g, x) :: putN f y r
theorem putN_ok {F : Fix} {m : Nat → Addr} {N : Nat} {H : Hp} {f : Nat} (hf : f < F.c.names.length) {y : AV} {v : V} (hy : AVal0 F m N H y v) : ∀ {fs : List (Nat × AV)} {us : List (Str × V)}, Paired (fun (p : Nat × AV) (q : Str × V) => F.c.fn p.1 = q.1 ∧ AVal0 F m N H p.2 q.2) fs us →
    Paired (fun (p : Nat × AV) (q : Str × V) => F.c.fn p.1 = q.1 ∧ AVal0 F m N H p.2 q.2) (putN f y fs) (putF (F.c.fn f) v us)
  | _, _, .nil => .cons ⟨rfl, hy⟩ .nil
  | (g, x) :: fs, (k, u) :: us, .cons h r => by
    obtain ⟨h1, h2⟩ := h
    have h1 : F.c.fn g = k := h1
    subst h1
    unfold putN putF
    by_cases q : g = f
    · subst q
      rw [decide_eq_true rfl, if_pos rfl]
      exact .cons ⟨rfl, hy⟩ r
    · have e1 : decide (g = f) = false := decide_eq_false q
      have e2 : ¬ F.c.fn g = F.c.fn f := fun z => q (Ct.fn_inj F.c hf z)
      rw [e1, if_neg e2]
      exact .cons ⟨rfl, h2⟩ (putN_ok hf hy r)
def dSetF (cs : List Ty) (f : Nat) (dv de : DE) : DS := fun S st => (dv S st).flow S fun y st1 => (de S st1).flow S fun x st2 => match x with
  | .ref n => match st2[n]? with
    | some (.ins C fs) => bif cs.contains (.o C) && Nat.ble fs.length 900 then .nx S (st2.set n (.ins C (putN f y fs))) else .bad
    | _ => .bad
  | _ => .bad
theorem psa_fld (hK : c.K = X.K) (ok : FldOk c cs f x) (hv : PEA X c W value dv) (ho : PEA X c W o de) (hs : swapsWith value (some (.Attribute o x pos')) pos.line X.env = pure false := by rfl) : PSA X c W (.Assign [.Attribute o x pos'] value pos) (dSetF cs f dv de) := (ps_fld ho hv hs).imp fun D σ H ⟨F, m, s, S, hc, R, P⟩ =>
  ⟨F, m, s, S, hc, R, (PostS.bind P).imp fun y H1 ⟨m1, s1, y1, _, a1, R1, r1, P1⟩ =>
    ⟨F, m1, s1, S, hc, R1, (PostS.bind P1).imp fun v H2 ⟨m2, s2, x2, _, a2, R2, r2, P2⟩ => by
      subst hc
      cases r2 with
      | v r2 _ => exact P2.elim
      | @ref n hn =>
      simp only at P2
      cases e0 : s2[n]? with
      | none => rw [e0] at P2; exact P2.elim
      | some ob =>
        rw [e0] at P2
        cases ob with
        | ins C fs =>
          simp only at P2
          cases q1 : cs.contains (Ty.o C) && Nat.ble fs.length 900 with
          | false => rw [q1] at P2; exact P2.elim
          | true =>
            rw [q1] at P2
            rw [Bool.and_eq_true] at q1
            have q2 := List.contains_iff_mem.mp q1.1
            obtain ⟨u, h1, h2⟩ := R2.sto n _ e0
            cases h2 with
            | ins h2 =>
            have hl := Paired.length h2
            have hle := Nat.le_of_ble_eq_true q1.2
            refine ⟨_, _, _, _, rfl, h1, hK ▸ ok.cl C q2, hK ▸ ok.na C q2, by omega, ?_⟩
            obtain ⟨st3, R3⟩ := R2.write (o := .ins C (putN f y1 fs)) hn (.ins (putN_ok ok.lt (AVal0.step a2 r1.zero) h2)) fun o z => by rw [e0] at z; cases z; rfl
            rw [ok.eq] at st3 R3
            exact P2 m2 σ _ st3 R3
        | _ => exact P2.elim⟩⟩
end
/-! ### o.m(e, ..) -/
def clsOf (st : Store) : AV → Option Nat
  | .v (.obj _ C _ _) _ => some C
  | .ref n => match st[n]? with
    | some (.ins C _) => some C
    | _ => none
  | _ => none
/-- the class C has the method m, which keeps sp -/
structure MthOk (g : Gd) (k n : Nat) (m : Str) (C : Nat) (sp : Sp) : Prop where
  cls : Cls g.c.K (g.c.ca C)
  fld : ∀ f, g.c.fn f ≠ m
  at_ : ∃ f, Meth g.c.K (g.c.ca C) m f ∧ FnAt g k f (n + 1) [] sp
abbrev MTab := Nat → Option (List AV → Store → Res AV)
def dMth (tb : MTab) (n : Nat) (de : DE) (da : DA) : DE := fun S st => (de S st).then fun x st1 => match clsOf st1 x with
  | some C => match tb C with
    | some f => (da S st1).then fun xs st2 => bif Nat.beq xs.length n then f (x :: xs) st2 else .bad
    | none => .bad
  | none => .bad
theorem lookup_zip_none {α β : Type} [BEq α] [LawfulBEq α] {k : α} : ∀ {xs : List α} {ys : List β}, (∀ x ∈ xs, x ≠ k) → (xs.zip ys).lookup k = none
  | [], _, _ => rfl
  | _ :: _, [], _ => rfl
  | x :: xs, y :: ys, h => by
    have e : (k == x) = false := beq_eq_false_iff_ne.mpr fun z => h x List.mem_cons_self z.symm
    rw [List.zip_cons_cons]
    simp only [List.lookup, e]
    exact lookup_zip_none fun x hx => h x (List.mem_cons_of_mem _ hx)
theorem clsOf_ok {F : Fix} {m : Nat → Addr} {H : Hp} {st : Store} {S : Slots} {σ : St} (R : Rel F m st S σ H) {x : AV} {v : V} {C : Nat} (h : AVal F m st.length H x v) (e : clsOf st x = some C) {y : Str} (hy : ∀ f, F.c.fn f ≠ y) : ∃ a dx fs, v = .ref a ∧ H a = some (.ins (F.c.ca C) dx fs) ∧ fs.lookup y = none := by
  cases x with
  | v p fr =>
    cases p with
    | obj t C fs xs =>
      cases e
      cases h with
      | v h _ =>
      cases h with
      | obj h z l r => exact ⟨_, _, _, rfl, h, lookup_zip_none fun x hx => by
          obtain ⟨f, _, rfl⟩ := List.mem_map.mp hx
          exact hy f⟩
    | _ => cases e
  | ref n =>
    simp only [clsOf] at e
    cases e0 : st[n]? with
    | none => rw [e0] at e; cases e
    | some ob =>
      rw [e0] at e
      cases ob with
      | ins C fs =>
        cases e
        obtain ⟨u, h1, h2⟩ := R.sto n _ e0
        cases h2 with
        | ins h2 =>
        cases h with
        | ref hn =>
        refine ⟨_, _, _, rfl, h1, ?_⟩
        clear h1 e0
        induction h2 with
        | nil => rfl
        | cons a _ ih =>
          rename_i p q _ _ _
          obtain ⟨a1, _⟩ := a
          have e : (y == q.1) = false := beq_eq_false_iff_ne.mpr fun z => hy p.1 (a1.trans z.symm)
          obtain ⟨q1, q2⟩ := q
          simp only [List.lookup, e]
          exact ih
      | _ => cases e
section
variable {X : Cx} {g : Gd} {W : WX} {k n : Nat} {o e : Expr} {es : List Expr} {de : DE} {da : DA} {m : Str} {apos pos : Pos} {pl : Sem Bool} {tb : MTab}
/-- what a table of methods must be -/
def TabOk (g : Gd) (k n : Nat) (m : Str) (tb : MTab) : Prop := ∀ C f, tb C = some f → ∃ sp, CallOk g sp (n + 1) f ∧ MthOk g k n m C sp
theorem mth_run (hT : TabOk g k n m tb) (C0 : Nat) (h0 : (tb C0).isSome = true) (cg : Cg X g) (tk : Takes X W) (hr : Room k X.A) (ho : PEA X g.c W o de) {t : TA} {args : List Expr}
    (ht : eval (.Call (.Attribute o m apos) args [] pos) X.env = (do
      let ov ← eval o X.env
      standAt apos.atName
      let (f, first) ← holding [ov] (getMethod ov m pl)
      callWith pos f first (backTo pos (starEach args X.env)) (backToKw pos (keywordEach [] X.env))))
    (ht2 : ∀ σ H Q, tG rA g.c W da σ H Q → t σ H Q)
    (run : ∀ (pins : List (Addr × Obj)) (s1 : Shared) (σ : St) (H1 : Hp) (a : Addr) (fm : Addr) (sp : Sp) (Q : VK), PySem.W.keepIn X.K (.ref fm) = true → FnAt g k fm (n + 1) [] sp → Inv X pins σ H1 s1 → (t σ H1 fun vs H2 => sp (.ref a :: vs) H2 Q fun cls d H' => W cls d σ H') →
      wpAny (model X.prog X.w) X.A (callWith pos (.ref fm) [.ref a] (backTo pos (starEach args X.env)) (backToKw pos (keywordEach [] X.env))) (EP X pins σ Q) X.xe s1) :
    PEA X g.c W (.Call (.Attribute o m apos) args [] pos) (dMth tb n de da) := by
  refine ⟨fun pins s σ H Q I ⟨F, m', st, S, hc, R, P⟩ => ?_⟩
  have go : ∀ C f, tb C = some f → (tG rV g.c W de σ H fun v H1 => ∃ m1 st1 x, Rel F m1 st1 S σ H1 ∧ AVal F m1 st1.length H1 x v ∧ clsOf st1 x = some C ∧ PostE rV W F m1 st1.length H1 S σ ((da S st1).then fun xs st2 => bif Nat.beq xs.length n then f (x :: xs) st2 else .bad) Q) →
      wpAny (model X.prog X.w) X.A (eval (.Call (.Attribute o m apos) args [] pos) X.env) (EP X pins σ Q) X.xe s := fun C f e h => by
    obtain ⟨sp, cok, ⟨cl, nf, fm, hm, G⟩⟩ := hT C f e
    refine PySem.W.methodCall_KW (pl := pl) (thn (ho.run pins s σ H _ I h) fun u s1 ⟨v, H1, I1, rx, m1, st1, x, R1, r1, ec, P1⟩ => ?_) ht
    obtain ⟨a, dx, fs, ev, ea, l⟩ := clsOf_ok R1 r1 ec (y := m) (by rw [hc]; exact nf)
    subst ev
    obtain rfl : u = Value.ref a := rx
    rw [hc] at ea
    refine getmeth_ok I1 ea (by rw [cg.K]; exact cl) (by rw [cg.K]; exact hm) l ?_
    refine run pins s1 σ H1 a fm sp Q (by rw [cg.K]; exact hm.kp) G I1 (ht2 _ _ _ ⟨F, m1, st1, S, hc, R1, (PostE.bind P1).imp fun vs H2 ⟨m2, s2, xs, _, a2, R2, r2, P2⟩ => ?_⟩)
    have hl := Paired.length r2
    cases q : Nat.beq xs.length n with
    | false => rw [q] at P2; exact P2.elim
    | true =>
      rw [q] at P2
      have eq := Nat.eq_of_beq_eq_true q
      exact cok W F m2 s2 S σ H2 (x :: xs) (.ref a :: vs) Q hc R2 (.cons (AVal0.step a2 r1.zero) (AVls.zero r2)) (by rw [List.length_cons, ← hl, eq]) P2
  unfold dMth at P
  cases e : de S st with
  | bad => rw [e] at P; exact P.elim
  | ex er st' =>
    rw [e] at P
    obtain ⟨f, ef⟩ := Option.isSome_iff_exists.mp h0
    refine go C0 f ef ⟨F, m', st, S, hc, R, ?_⟩
    rw [e]
    exact P
  | ok x st1 =>
    rw [e] at P
    simp only [Res.then] at P
    cases ec : clsOf st1 x with
    | none => rw [ec] at P; exact P.elim
    | some C =>
      rw [ec] at P
      simp only at P
      cases ef : tb C with
      | none => rw [ef] at P; exact P.elim
      | some f =>
        rw [ef] at P
        refine go C f ef ⟨F, m', st, S, hc, R, ?_⟩
        rw [e]
        exact fun m1 v H1 a1 R1 r1 => ⟨m1, st1, x, R1, r1, ec, PostE.shift a1 P⟩
theorem pea_mth (hT : TabOk g k n m tb) (C0 : Nat) (h0 : (tb C0).isSome = true) (cg : Cg X g) (tk : Takes X W) (hr : Room k X.A) (ho : PEA X g.c W o de) (ha : PAA X g.c W (e :: es) da)
    (hst : starEach (e :: es) X.env = (false, eval e X.env) :: starEach es X.env := by rfl) (hpl : (backTo pos (starEach es X.env)).any (·.1) = false := by rfl)
    (ht : eval (.Call (.Attribute o m apos) (e :: es) [] pos) X.env = (do
      let ov ← eval o X.env
      standAt apos.atName
      let (f, first) ← holding [ov] (getMethod ov m pl)
      callWith pos f first (backTo pos (starEach (e :: es) X.env)) (backToKw pos (keywordEach [] X.env))) := by rfl) :
    PEA X g.c W (.Call (.Attribute o m apos) (e :: es) [] pos) (dMth tb n de da) :=
  mth_run hT C0 h0 cg tk hr ho ht (fun _ _ _ h => h) fun pins s1 σ H1 a fm sp Q hk G I1 q =>
    PySem.W.callWith_K (first := [.ref a]) (h₀ := X.base) I1.ok.mod.kin hk (thn (ha.run pos pins s1 σ H1 _ I1 q) fun us s2 ⟨vs, H2, I2, r, q2⟩ => ⟨I2.kIn,
      run_fnA (us := .ref a :: us) (vs := .ref a :: vs) (dvs := []) cg tk G hr .nil I2 (.cons rfl r) (by rw [List.append_nil]; exact q2)⟩) hst hpl
theorem pea_mth0 (hT : TabOk g k 0 m tb) (C0 : Nat) (h0 : (tb C0).isSome = true) (cg : Cg X g) (tk : Takes X W) (hr : Room k X.A) (ho : PEA X g.c W o de)
    (ht : eval (.Call (.Attribute o m apos) [] [] pos) X.env = (do
      let ov ← eval o X.env
      standAt apos.atName
      let (f, first) ← holding [ov] (getMethod ov m pl)
      callWith pos f first (backTo pos (starEach [] X.env)) (backToKw pos (keywordEach [] X.env))) := by rfl) :
    PEA X g.c W (.Call (.Attribute o m apos) [] [] pos) (dMth tb 0 de dNil) :=
  mth_run (t := tNil) hT C0 h0 cg tk hr ho ht (fun σ H Q ⟨F, m, s, S, hc, R, P⟩ => PostE.here P R .nil) fun pins s1 σ H1 a fm sp Q hk G I1 q =>
    PySem.W.callWith_K0 (first := [.ref a]) I1.kIn hk (run_fnA (us := [.ref a]) (vs := [.ref a]) (dvs := []) cg tk G hr .nil I1 (.cons rfl .nil) (by rw [List.append_nil]; exact q))
end
end A

/-! The A-layer, part 19: C(..). -/
namespace A
open PySem PySem.Spec PyProof.Rows L2
/-- a body run as __init__: the object is place 0 of the store -/
def runM (C N : Nat) (d : DS) : PDen := fun ps => match d (slots0 N (.ref 0 :: ps.map (AV.v · false))) [.ins C []] with
  | .nx _ st => match viewN true st 12 (.ref 0) with
    | some p => .ok p false
    | none => .bad
  | .rt (.v .non _) st => match viewN true st 12 (.ref 0) with
    | some p => .ok p false
    | none => .bad
  | .ex e _ _ => .ex e
  | _ => .bad
/-- what __init__ promises: the object is new -/
def spM (c : Ct) (C n : Nat) (den : PDen) : Sp := fun us H' Q E => us.length = n + 1 ∧ ∃ (H : Hp) (x dx : Addr) (vs : List V) (A B : Addr → Prop) (ps : List PV), us = .ref x :: vs ∧ H x = none ∧ H dx = none ∧ dx ≠ x ∧ H' = upd (upd H dx (.own x)) x (.ins (c.ca C) dx []) ∧
  (∀ p, H p = none → A p) ∧ LamX.Tabs c.T H ∧ Vls c (LL A B) H ps vs ∧
  match den ps with
  | .ok p fr => ∀ H2, Ext c H H2 → Val c (LL A B) H2 p (.ref x) → Q .non H2
  | .ex e => ∀ cls d H2, Ext c H H2 → ERep c (LL A B) H2 e cls d → E cls d H2
  | .bad => False
theorem spM_body {c : Ct} {C N n : Nat} {d : DS} {names : List Str} {us : List V} {H' : Hp} {Q : VK} {E : XK} (hN : names.length = N) (h : spM c C n (runM C N d) us H' Q E) :
    tS c (fun cls dx _ H => E cls dx H) d { nx := fun _ H' => Q .non H', rt := Q } (L2.start names us) H' := by
  obtain ⟨hn, H, x, dx, vs, A, B, ps, rfl, hx, hdx, ne, rfl, hA, hT, hv, P⟩ := h
  let F : Fix := ⟨c, A, B, fun _ => False, H, fun _ => False, hA⟩
  have hv0 : Vls F.c (Lw F (fun _ => 0) 0) H ps vs := Vls.ground (fun t a l e => ⟨l, fun z => z, fun i hi => absurd hi (Nat.not_lt_zero _)⟩) hv
  have R0 : Rel F (fun _ => 0) [] [] [] H :=
    ⟨fun i j hi => absurd hi (Nat.not_lt_zero _), fun i hi => absurd hi (Nat.not_lt_zero _), fun b o h _ _ => h, fun b o h _ => h, fun b h => h, fun b z => z.elim, fun i o e => by simp at e, rfl, fun i x e => by simp at e, hT⟩
  have sm : Same H (upd (upd H dx (.own x)) x (.ins (c.ca C) dx [])) := fun b u q => by
    rw [upd_ne (ne_of_none q hx), upd_ne (ne_of_none q hdx)]; exact q
  obtain ⟨m1, s1, R1, e1⟩ := R0.push (o := .ins C []) (u := .ins (c.ca C) dx []) hx sm upd_same fun m' s' e => .ins .nil
  have e1 : m1 0 = x := e1
  have hv1 : Vls F.c (Lw F m1 1) (upd (upd H dx (.own x)) x (.ins (c.ca C) dx [])) ps vs := Vls.step s1 hv0
  have R : Rel F m1 [.ins C []] (slots0 N (.ref 0 :: ps.map (AV.v · false))) (L2.start names (.ref x :: vs)) (upd (upd H dx (.own x)) x (.ins (c.ca C) dx [])) := by
    refine R1.slots ?_ ?_
    · unfold slots0 L2.start
      simp [hN, Vls.length hv]
    · intro i y e
      have r0 : AVal0 F m1 1 (upd (upd H dx (.own x)) x (.ins (c.ca C) dx [])) (.ref 0) (.ref x) := by
        rw [← e1]; exact .ref (Nat.lt_succ_self _)
      have := slots_rel (N := N) (Paired.cons r0 (AVls.zero (Vls.avls hv1))) i y e
      unfold L2.start
      rw [hN]
      simpa [Vls.length hv] using this
  refine ⟨F, m1, [.ins C []], _, rfl, R, ?_⟩
  have same : ∀ {m' st' S' σ' H2}, Step m1 1 (upd (upd H dx (.own x)) x (.ins (c.ca C) dx [])) m' st'.length H2 → Rel F m' st' S' σ' H2 → Ext c H H2 := fun s R' => ⟨fun b o h n => s.keep b o (sm b o h) (fun i hi z => by
    have : i = 0 := by omega
    subst this
    rw [e1] at z; subst z; rw [hx] at h; cases h) n, fun b h => s.dom b ((Step.of (m := fun _ => 0) (N := 0) sm).dom b h), R'.tab⟩
  have gr : ∀ {m' : Nat → Addr} {N' : Nat} {H' : Hp} (t : Bool) (a : Addr), Lw F m' N' t a → H' a ≠ none → LL A B t a := fun t a l _ => l.1
  have fin : ∀ {m' : Nat → Addr} {st' : Store} {S' : Slots} {σ' : St} {H2 : Hp} {p : PV}, Step m1 1 (upd (upd H dx (.own x)) x (.ins (c.ca C) dx [])) m' st'.length H2 → Rel F m' st' S' σ' H2 → viewN true st' 12 (.ref 0) = some p → Val c (LL A B) H2 p (.ref x) := fun {m' st' S' σ' H2 p} s R' e => by
    have hl := s.le
    have e0 : m' 0 = x := (s.same 0 (Nat.lt_succ_self _)).trans e1
    rw [← e0]
    refine viewN_ok R' gr (fun i hi => ?_) 12 (.ref 0) _ p (.ref (by omega)) e
    show if true = true then A _ else B _
    rw [if_pos rfl]
    by_cases q : i = 0
    · subst q; rw [e0]; exact hA _ hx
    · have z := s.new i (by omega) hi
      refine hA _ ?_
      cases w : H (m' i) with
      | none => rfl
      | some o => rw [sm _ _ w] at z; cases z
  unfold runM at P
  cases e : d (slots0 N (.ref 0 :: ps.map (AV.v · false))) [.ins C []] with
  | nx S' st' =>
    rw [e] at P
    simp only at P
    intro m' σ' H2 a b
    cases q : viewN true st' 12 (.ref 0) with
    | none => rw [q] at P; exact P.elim
    | some p => rw [q] at P; exact P H2 (same a b) (fin a b q)
  | rt y st' =>
    rw [e] at P
    intro m' v H2 a R' rv
    cases y with
    | ref k => exact P.elim
    | v p0 fr =>
      cases p0 with
      | non =>
        simp only at P
        cases q : viewN true st' 12 (.ref 0) with
        | none => rw [q] at P; exact P.elim
        | some p =>
          rw [q] at P
          rw [isN rv]
          exact P H2 (same a R') (fin a R' q)
      | _ => exact P.elim
  | ex y S' st' =>
    rw [e] at P
    intro m' σ' H2 cls dd a R' er
    exact P cls dd H2 (same a R') (er.mono (fun _ _ h _ => h) (fun _ _ _ _ h _ => h) gr)
  | bk S' st' => rw [e] at P; exact P.elim
  | ct S' st' => rw [e] at P; exact P.elim
  | bad => rw [e] at P; exact P.elim
theorem fnAtM {g : Gd} {x qual : Str} {st : Stmt} {f : Addr} {fd : FuncData} {names ps : List Str} {C N n k : Nat} {d : DS} (FF : FunD g.c.K x qual (defArgs st) (defBody st) (defScope st) [] [] f fd) (sc : FnScope names ps (defScope st)) (hN : names.length = N) (hn : ps.length = n + 1)
    (hb : ∀ (kV doc pm : Value) (an : Option Addr) (cdv ct : Value) (us : List Value), us.length = ps.length → bindArgs (PySem.W.fnOf x qual (defArgs st) (defBody st) (defScope st) .none kV doc pm an cdv ct) ⟨us, []⟩ = pure (ps.zip us))
    (body : ∀ e : Entry, Cg (XOf g names qual st f e) g → Takes (XOf g names qual st f e) (WOf e) → Room k (XOf g names qual st f e).A → PSsA (XOf g names qual st f e) g.c (WOf e) (defBody st) d) : FnAt g (k + 1) f (n + 1) [] (spM g.c C n (runM C N d)) :=
  ⟨FF.kp, fd, ps, FF.bindsN hb, hn, FF.ok sc (fun vs H Q E h => h.1.trans hn.symm) fun cdv A outer s H vs Q E hr h => ⟨_, body ⟨cdv, A, outer, s, H, E⟩ (cgOf sc) tkOf hr, spM_body hN h⟩⟩
theorem runM_fr {C N : Nat} {d : DS} : ∀ ps p fr, runM C N d ps = .ok p fr → fr = false := fun ps p fr e => by
  unfold runM at e
  split at e
  · split at e <;> cases e
    rfl
  · split at e <;> cases e
    rfl
  · cases e
  · cases e
/-- a class that is made: called, it promises den -/
structure MkAt (g : Gd) (k n : Nat) (C : Nat) (den : PDen) : Prop where
  kp : PySem.W.keepIn g.c.K (.ref (g.c.ca C)) = true
  run : ∀ {X : Cx} {W : WX} {pins : List (Addr × Obj)} {σ : St} {H : Hp} {s : Shared} {Q : VK} {us : List Value} {vs : List V}, Cg X g → Takes X W → Room k X.A → Inv X pins σ H s → Vals vs us → (spP g.c n den vs H Q fun cls d H' => W cls d σ H') →
    wpAny (model X.prog X.w) X.A (call (.ref (g.c.ca C)) us) (EP X pins σ Q) X.xe s
theorem MkAt.mono {g : Gd} {j k n C : Nat} {den : PDen} (h : MkAt g j n C den) (l : j ≤ k) : MkAt g k n C den := ⟨h.kp, fun cg tk hr => h.run cg tk (hr.mono l)⟩
theorem mkAt {g : Gd} {k n C : Nat} {f : Addr} {den : PDen} (hfr : ∀ ps p fr, den ps = .ok p fr → fr = false) (M : Mk g.c.K (g.c.ca C) f) (G : FnAt g k f (n + 1) [] (spM g.c C n den)) : MkAt g (k + 1) n C den := by
  refine ⟨M.kp, fun {X W pins σ H s Q us vs} cg tk hr I r h => ?_⟩
  obtain ⟨kp, fd, ps, hb, hn, FO⟩ := G
  rw [← cg.P, ← cg.w, ← cg.K, ← cg.mg, ← cg.base] at FO
  rw [← cg.K] at hb M
  have hh : ∀ x dx, H x = none → H dx = none → dx ≠ x → spM g.c C n den (.ref x :: vs) (upd (upd H dx (.own x)) x (.ins (g.c.ca C) dx [])) (fun v H2 => v = .non ∧ Q (.ref x) H2) fun cls d H' => W cls d σ H' := fun x dx hx hdx ne => by
    obtain ⟨h1, A, B, ps, hA, hT, hv, P⟩ := h
    refine ⟨by rw [List.length_cons, h1], H, x, dx, vs, A, B, ps, rfl, hx, hdx, ne, rfl, hA, hT, hv, ?_⟩
    cases e : den ps with
    | ok p fr =>
      rw [e] at P
      refine fun H2 sm val => ⟨rfl, P (.ref x) H2 sm val fun z => ?_⟩
      rw [hfr _ _ _ e] at z; cases z
    | ex e2 => rw [e] at P; exact P
    | bad => rw [e] at P; exact P
  have hq := hh (s.heap.objs.size + 1) s.heap.objs.size (I.hok.fresh (Nat.le_succ _)) (I.hok.fresh (Nat.le_refl _)) (Nat.ne_of_lt (Nat.lt_succ_self _))
  have I2 := Inv.made (C := g.c.ca C) I
  have r2 : Vals (V.ref (s.heap.objs.size + 1) :: (vs ++ [])) (Value.ref (s.heap.objs.size + 1) :: (us ++ [])) := .cons rfl (r.append .nil)
  have hl : (Value.ref (s.heap.objs.size + 1) :: us ++ []).length = ps.length := by
    have e := r2.length
    rw [List.append_nil] at e
    rw [FO.len _ _ _ _ hq] at e
    exact e.symm
  refine wpAny_call (make_map (f := f) I.kIn M.makes M.init (beq_iff_eq.mp M.fn) (codeAny_mono (FO.run _ X.stack _ _ ⟨Value.ref (s.heap.objs.size + 1) :: us, []⟩ (Value.ref (s.heap.objs.size + 1) :: us ++ []) _ _ _ ((hr.make (g.c.ca C) us []))
    (I2.env0.make (g.c.ca C) us []) (hb _ (Value.ref (s.heap.objs.size + 1) :: us) I2.kIn hl) (by rw [List.append_nil] at r2; exact r2) hq) fun r s' hq' => ?_))
  cases r with
  | error e => exact passAt tk σ pins _ _ e s' I2 hq'
  | ok fl =>
    cases fl with
    | ret u =>
      obtain ⟨v, H', I3, rv, ev, q3⟩ := I2.after hq'
      subst ev
      exact ⟨rv, ⟨V.ref (s.heap.objs.size + 1), H', I3, rfl, q3⟩⟩
    | next => exact False.elim hq'
    | brk => exact False.elim hq'
    | cont => exact False.elim hq'
section
variable {X : Cx} {g : Gd} {W : WX} {k n C : Nat} {den : PDen} {e : Expr} {es : List Expr} {da : DA} {x : Str} {p pos : Pos}
theorem pea_make (G : MkAt g k n C den) (cg : Cg X g) (tk : Takes X W) (hm : X.mg x = some (.ref (g.c.ca C))) (hr : Room k X.A) (ha : PAA X g.c W (e :: es) da) (hg : Gl X x := by rfl) (hdb : (x == ("__debug__" : Str)) = false := by decide)
    (he : starEach (e :: es) X.env = (false, eval e X.env) :: starEach es X.env := by rfl) (hpl : (backTo pos (starEach es X.env)).any (·.1) = false := by rfl) : PEA X g.c W (.Call (.Name x p) (e :: es) [] pos) (dCall n den da) := by
  refine ⟨fun pins s σ H Q I h => ?_⟩
  have h2 : tCallA (spP g.c n den) [] W (tG rA g.c W da) σ H Q := args_ok0 ok_P h
  refine wpAny_Call_Name_kw (ld_glob I hg hm ?_ hdb)
  refine PySem.W.callWith_K (h₀ := X.base) I.ok.mod.kin (by rw [cg.K]; exact G.kp) (thn (ha.run pos pins s σ H _ I h2) fun us s1 ⟨vs, H1, I1, r, q⟩ => ⟨I1.kIn, ?_⟩) he hpl
  exact G.run cg tk hr I1 r (by have q : spP g.c n den (vs ++ []) H1 Q _ := q; rw [List.append_nil] at q; exact q)
theorem pea_make0 (G : MkAt g k 0 C den) (cg : Cg X g) (tk : Takes X W) (hm : X.mg x = some (.ref (g.c.ca C))) (hr : Room k X.A) (hg : Gl X x := by rfl) (hdb : (x == ("__debug__" : Str)) = false := by decide) : PEA X g.c W (.Call (.Name x p) [] [] pos) (dCall 0 den dNil) := by
  refine ⟨fun pins s σ H Q I h => ?_⟩
  have h2 : tCallA (spP g.c 0 den) [] W (tG rA g.c W dNil) σ H Q := args_ok0 ok_P h
  obtain ⟨F, m, st, S, hc, R, P⟩ := h2
  have q := PostE.here P R .nil
  refine wpAny_Call_Name_kw (ld_glob I hg hm ?_ hdb)
  refine PySem.W.callWith_K0 I.kIn (by rw [cg.K]; exact G.kp) ?_
  exact G.run cg tk hr I .nil q
end
end A

/-! The A-layer, part 20: tables of methods, classes by the head's facts, defs that call themselves. -/
namespace A
open PySem PySem.Spec PyProof.Rows L2
/-- a class's statements -/
def clBody : Stmt → List Stmt
  | .ClassDef (body := b) .. => b
  | _ => []
def tabOf (l : List (Nat × (List AV → Store → Res AV))) : MTab := fun C => l.lookup C
section
variable {g : Gd} {k n : Nat} {m : Str}
theorem tab_nil : TabOk g k n m (tabOf []) := fun C f e => by cases e
theorem tab_cons {C : Nat} {sp : Sp} {f : List AV → Store → Res AV} {l : List (Nat × (List AV → Store → Res AV))} (h : CallOk g sp (n + 1) f) (hm : MthOk g k n m C sp) (ht : TabOk g k n m (tabOf l)) : TabOk g k n m (tabOf ((C, f) :: l)) := fun D f' e => by
  unfold tabOf at e
  by_cases q : D = C
  · subst q
    simp only [List.lookup, beq_self_eq_true] at e
    cases e
    exact ⟨sp, h, hm⟩
  · have e1 : (D == C) = false := beq_eq_false_iff_ne.mpr q
    simp only [List.lookup, e1] at e
    exact ht D f' e
/-! ### the head's facts -/
def alB (al : List (Str × Str × Str)) (K : PySem.W.Frag) : Bool := al.all fun q => decide (He.ma K (He.ga K q.1) q.2.1 = He.ma K (He.ga K q.2.2) q.2.1)
variable {fa : List He.Fa} {fn : List He.DefD} {ex : PySem.W.Frag → Bool} {cx : PySem.W.Frag → Ct} {tb : Ty → Ty → Option Bool} {cs : List Ty}
theorem fn_ne {c : Ct} {m : Str} (h : c.names.contains m = false) (h2 : m ≠ "#") : ∀ f, c.fn f ≠ m := fun f z => by
  unfold Ct.fn at z
  rw [List.getD_eq_getElem?_getD] at z
  cases e : c.names[f]? with
  | none => rw [e] at z; exact h2 z.symm
  | some x =>
    rw [e] at z
    have z : x = m := z
    subst z
    have := List.mem_of_getElem? e
    have h3 := List.contains_iff_mem.mpr this
    rw [h] at h3; cases h3
theorem mthT (T : PG g fa fn ex cx) (kit : KitOk g.c tb cs) {C j : Nat} {x D : Str} {sp : Sp} (hcs : Ty.o C ∈ cs) (i : Nat) (G : FnAt g j (He.ma g.c.K (He.ga g.c.K D) m) (n + 1) [] sp) (l : j ≤ k) (hal : He.ma g.c.K (He.ga g.c.K x) m = He.ma g.c.K (He.ga g.c.K D) m)
    (hnm : ∀ K, (cx K).names.contains m = false) (hca : ∀ K, (cx K).ca C = He.ga K x := by intro _; rfl) (hi : fa[i]? = some (.meth x m) := by rfl) (h2 : m ≠ "#" := by decide) : MthOk g k n m C sp := by
  have e : g.c.ca C = He.ga g.c.K x := (T.ca C).trans (hca _)
  refine ⟨(kit.ins C hcs).cl, fn_ne (by rw [T.names]; exact hnm _) h2, He.ma g.c.K (He.ga g.c.K x) m, ?_, ?_⟩
  · rw [e]; exact He.meth_ok (T.c.fact i hi)
  · rw [hal]; exact G.mono l
theorem mkT (T : PG g fa fn ex cx) {C j : Nat} {x D : Str} {den : PDen} (hfr : ∀ ps p fr, den ps = .ok p fr → fr = false) (i : Nat) (G : FnAt g j (He.ma g.c.K (He.ga g.c.K D) "__init__") (n + 1) [] (spM g.c C n den)) (hal : He.ma g.c.K (He.ga g.c.K x) "__init__" = He.ma g.c.K (He.ga g.c.K D) "__init__")
    (hca : ∀ K, (cx K).ca C = He.ga K x := by intro _; rfl) (hi : fa[i]? = some (.mkr x) := by rfl) : MkAt g (j + 1) n C den := by
  have e : g.c.ca C = He.ga g.c.K x := (T.ca C).trans (hca _)
  refine mkAt hfr (f := He.ma g.c.K (He.ga g.c.K x) "__init__") ?_ ?_
  · rw [e]; exact He.mkr_ok (T.c.fact i hi)
  · rw [hal]; exact G
theorem alT {al : List (Str × Str × Str)} {K : PySem.W.Frag} (h : alB al K = true) (i : Nat) {x m D : Str} (hi : al[i]? = some (x, m, D) := by rfl) : He.ma K (He.ga K x) m = He.ma K (He.ga K D) m :=
  of_decide_eq_true (List.all_eq_true.mp h _ (List.mem_of_getElem? hi))
end
/-! ### a class without __init__ -/
/-- the bare instance -/
def mk0 (C : Nat) : PDen := fun ps => match ps with
  | [] => .ok (.obj true C [] []) false
  | _ => .bad
structure Mk0 (K : PySem.W.Frag) (C : Addr) : Prop where
  makes : PySem.W.makesIn K C = true
  init : PySem.W.findIn K (.ref C) "__init__" = some (some (.builtin "object.__init__"))
  top : PySem.W.mroIn K C (.type "object") = some true
  kp : PySem.W.keepIn K (.ref C) = true
def mk0B (K : PySem.W.Frag) (C : Addr) : Bool := PySem.W.makesIn K C && (He.eqO (PySem.W.findIn K (.ref C) "__init__") (some (some (.builtin "object.__init__"))) && (decide (PySem.W.mroIn K C (.type "object") = some true) && PySem.W.keepIn K (.ref C)))
theorem mk0B_ok {K : PySem.W.Frag} {C : Addr} (h : mk0B K C = true) : Mk0 K C := by
  obtain ⟨h1, h⟩ := He.ba h
  obtain ⟨h2, h⟩ := He.ba h
  obtain ⟨h3, h4⟩ := He.ba h
  exact ⟨h1, He.eqO_ok h2, of_decide_eq_true h3, h4⟩
theorem mk0At {g : Gd} {C : Nat} (M : Mk0 g.c.K (g.c.ca C)) : MkAt g 1 0 C (mk0 C) := by
  refine ⟨M.kp, fun {X W pins σ H s Q us vs} cg tk hr I r h => ?_⟩
  obtain ⟨h1, A, B, ps, hA, hT, hv, P⟩ := h
  rw [← cg.K] at M
  cases vs with
  | cons v vs => cases h1
  | nil =>
  cases r
  cases hv
  have P : ∀ v H', Ext g.c H H' → Val g.c (LL A B) H' (.obj true C [] []) v → (false = true → FreshP g.c (LL A B) H H' (.obj true C [] []) v) → Q v H' := P
  have I2 := Inv.made (C := g.c.ca C) I
  have hx : H (s.heap.objs.size + 1) = none := I.hok.fresh (Nat.le_succ _)
  have hdx : H s.heap.objs.size = none := I.hok.fresh (Nat.le_refl _)
  have q := P (.ref (s.heap.objs.size + 1)) _ (Ext.of (fun b u q => by rw [upd_ne (ne_of_none q hx), upd_ne (ne_of_none q hdx)]; exact q) hT)
    (.obj (H := upd (upd H s.heap.objs.size (.own (s.heap.objs.size + 1))) (s.heap.objs.size + 1) (.ins (g.c.ca C) s.heap.objs.size [])) (vs := []) upd_same rfl (by
      show if true = true then A _ else B _
      rw [if_pos rfl]; exact hA _ hx) .nil) (fun z => nomatch z)
  have ho : ((s.heap.push PySem.W.emptyDict).push (PySem.W.instObj (g.c.ca C) s.heap.objs.size)).get? (s.heap.objs.size + 1) = some (PySem.W.instObj (g.c.ca C) s.heap.objs.size) := by
    have := Heap.get?_push_size (s.heap.push PySem.W.emptyDict) (o := PySem.W.instObj (g.c.ca C) s.heap.objs.size) rfl
    rwa [Heap.size_push] at this
  refine wpAny_call (make_map0 I.kIn M.makes M.init (fun self => PySem.W.Looks.of_pure (PySem.W.oi_bind _)) ?_)
  have t1 : PySem.W.Looks (model X.prog X.w) ((s.heap.push PySem.W.emptyDict).push (PySem.W.instObj (g.c.ca C) s.heap.objs.size)) (typeOf (.ref (s.heap.objs.size + 1))) (.ref (g.c.ca C)) := NwA.type_at ho rfl
  have t2 : PySem.W.Looks (model X.prog X.w) ((s.heap.push PySem.W.emptyDict).push (PySem.W.instObj (g.c.ca C) s.heap.objs.size)) (isInstance (.ref (s.heap.objs.size + 1)) (.type "object")) true := t1.andThen (PySem.W.looks_mroIn I2.kIn M.top)
  refine codeAny_call_builtin PySem.W.oi_plain PySem.W.entry_oi (@PySem.W.check_slot (model X.prog X.w) _ _ _ "object.__init__" "object" "__init__" (.ref (s.heap.objs.size + 1)) [] [] _ PySem.W.oi_kind PySem.W.oi_split t2 (NwA.oi_args_any _ _ _) ?_)
  rw [PySem.W.oi_run]
  exact wpAny_pure ⟨rfl, ⟨V.ref (s.heap.objs.size + 1), _, I2, rfl, q⟩⟩
/-! ### defs that call themselves -/
theorem pssa_bad {X : Cx} {c : Ct} {W : WX} {s : List Stmt} : PSsA X c W s dBad := ⟨fun pins s σ H D I ⟨F, m, st, S, hc, R, P⟩ => P.elim⟩
theorem FnAt.imp {g : Gd} {k : Nat} {f : Addr} {n : Nat} {ds : List Value} {sp sp' : Sp} (h : FnAt g k f n ds sp) (i : ∀ vs H Q E, sp' vs H Q E → sp vs H Q E) : FnAt g k f n ds sp' := by
  obtain ⟨h1, fd, ps, h2, h3, h4⟩ := h
  exact ⟨h1, fd, ps, h2, h3, ⟨fun vs H Q E h => h4.len vs H Q E (i _ _ _ _ h), fun A outer s H args us vs Q E a b c d h => h4.run A outer s H args us vs Q E a b c d (i _ _ _ _ h)⟩⟩
theorem FnAt.badP {g : Gd} {k : Nat} {f : Addr} {n : Nat} {ds : List Value} {den : PDen} (h : FnAt g k f n ds (spP g.c n den)) : FnAt g k f n ds (spP g.c n fun _ => .bad) :=
  h.imp fun vs H Q E ⟨h1, A, B, ps, hA, hT, hv, P⟩ => False.elim P
theorem FnAt.badI {g : Gd} {k : Nat} {f : Addr} {n : Nat} {ds : List Value} {den : IDen} (h : FnAt g k f n ds (spI g.c n den)) : FnAt g k f n ds (spI g.c n fun _ _ => .bad) :=
  h.imp fun vs H Q E ⟨h1, F, m, st, xs, a, b, c, d, e, P⟩ => False.elim P
end A

/-! The A-layer, part 21: sorted, all, any, len(set(..)). -/
namespace SrtO
open PySem PySem.Calls PyProof.Rows
section
variable {prog : Program} {w : World} {A : Around} {s : Shared} {E : Value → Shared → Prop}
theorem collect_tuple {l : Addr} {vs : List Value} {Q : List Value → Shared → Prop} (hl : ∃ o, s.heap.get? l = some o ∧ o.cls = .type "tuple" ∧ ∃ n, o.data = .seq vs.toArray n)
    (h : Q vs { s with heap := (s.heap.push (seqObj "list" #[] 0)).update s.heap.objs.size (Obj.mapSeq (· ++ vs.toArray)) }) (hsz : vs.length ≤ sizeLine) :
    wpAny (model prog w) A (collect (.ref l)) Q E s := by
  obtain ⟨o, ho, hc, n, hd⟩ := id hl
  unfold collect
  refine wpAny_bind (wpAny_runValue (codeAny_builtin entry_proto_collect' ?_))
  show wpAny _ _ (do again (.builtin "list.__iadd__" ⟨[← newList [], .ref l], []⟩)) _ _ s
  refine wpAny_bind (wpAny_newList (wpAny_pure ⟨Code.quiet_builtin _ (by decide +kernel), codeAny_builtin entry_list_iadd' ?_⟩))
  show wpAny _ _ (Builtin.List.listExtendWith (.ref s.heap.objs.size) (.ref l) (.ref s.heap.objs.size)) _ _ { s with heap := s.heap.push (seqObj "list" #[] 0) }
  unfold Builtin.List.listExtendWith
  have ho' : (s.heap.push (seqObj "list" #[] 0)).get? l = some o := Heap.get?_push_of_some _ ho
  refine wpAny_bind (wpAny_typeOf (T := "tuple") ⟨o, ho', hc⟩ ?_)
  have ht : (Value.type "tuple" == Value.type "tuple") = true := by rfl
  rw [if_pos (by rw [ht]; simp)]
  refine wpAny_bind (listItems_at ho' hd ?_)
  refine wpAny_bind (listItems_at (xs := #[]) (n := 0) (Heap.get?_push_size _ rfl) rfl ?_)
  rw [if_neg (by simp)]
  refine wpAny_bind (listUpdate_at (xs := #[]) (n := 0) (Heap.get?_push_size _ rfl) rfl ?_ (Nat.zero_le _) (by show (#[] ++ vs.toArray).size ≤ sizeLine + 1; simp only [Array.size_append, List.size_toArray, List.length_nil]; omega))
  refine wpAny_pure ?_
  show wpAny (model prog w) A (do
      let o ← load s.heap.objs.size
      match o.data with
      | .seq xs _ => pure xs.toList
      | _ => unsupported "internal:collect") Q E { s with heap := (s.heap.push (seqObj "list" #[] 0)).update s.heap.objs.size (Obj.mapSeq (· ++ vs.toArray)) }
  refine wpAny_bind (wpAny_load (get?_update_seq (Heap.get?_push_size _ rfl) _) ?_)
  show wpAny _ _ (pure ((#[] : Array Value) ++ vs.toArray).toList) Q E _
  rw [show ((#[] : Array Value) ++ vs.toArray).toList = vs by simp]
  exact wpAny_pure h
/-- sorted(t), t a tuple -/
theorem sorted_ordT {l : Addr} {vs : List Value} {ltv : Value → Value → Bool} {Q : Value → Shared → Prop} (O : Swo ltv) (hl : ∃ o, s.heap.get? l = some o ∧ o.cls = .type "tuple" ∧ ∃ n, o.data = .seq vs.toArray n) (hz : vs.length ≤ sizeLine)
    (hS : 2 ≤ vs.length → ∀ (h₁ : Heap) (a : Addr), h₁.get? a = some (seqObj "list" vs.toArray 0) → (∀ b o, s.heap.get? b = some o → b ≠ a ∧ h₁.get? b = some o) → SortableO prog w A.in1.in1 { s with heap := h₁ } a vs ltv)
    (h : ∀ out : List Value, Srtd ltv out → Stb ltv out vs → Q (.ref (s.heap.objs.size + 1)) { s with heap := sortedAll s.heap vs out.toArray }) :
    wpAny (model prog w) A (call (.builtin "sorted") [.ref l]) Q E s := by
  refine Calls.call_function_entry kind_sorted plain_sorted entry_sorted (args_sorted1 _) ?_
  unfold Builtin.«sorted»
  refine wpAny_bind (m := checkCount "sorted" 1 1 _) (wpAny_pure ?_)
  refine wpAny_bind (collect_tuple hl ?_ hz)
  refine wpAny_bind (wpAny_newList ?_ hz)
  have hsz : ((s.heap.push (seqObj "list" #[] 0)).update s.heap.objs.size (Obj.mapSeq (· ++ vs.toArray))).objs.size = s.heap.objs.size + 1 := by
    rw [Heap.size_update, size_push']
  have hoL : (((s.heap.push (seqObj "list" #[] 0)).update s.heap.objs.size (Obj.mapSeq (· ++ vs.toArray))).push (seqObj "list" vs.toArray 0)).get? (s.heap.objs.size + 1) = some (seqObj "list" vs.toArray 0) := by
    rw [← hsz]; exact Heap.get?_push_size _ rfl
  have keep : ∀ b o, s.heap.get? b = some o → b ≠ s.heap.objs.size + 1 ∧ (((s.heap.push (seqObj "list" #[] 0)).update s.heap.objs.size (Obj.mapSeq (· ++ vs.toArray))).push (seqObj "list" vs.toArray 0)).get? b = some o := fun b o q => by
    have hlt : b < s.heap.objs.size := Heap.lt_size q
    refine ⟨Nat.ne_of_lt (Nat.lt_succ_of_lt hlt), Heap.get?_push_of_some _ ?_⟩
    rw [Heap.get?_update_ne _ _ _ _ (Nat.ne_of_lt hlt)]
    exact Heap.get?_push_of_some _ q
  show wpAny _ _ _ _ _ { s with heap := ((s.heap.push (seqObj "list" #[] 0)).update s.heap.objs.size (Obj.mapSeq (· ++ vs.toArray))).push (seqObj "list" vs.toArray 0) }
  rw [hsz]
  refine wpAny_bind (wpAny_holding (wpAny_call_entry slot_list_sort ⟨_, hoL, rfl⟩ entry_list_sort (list_sort_ord O hoL hz (fun h2 => hS h2 _ _ hoL keep) fun out hs hb => ⟨_, rfl, ?_⟩) (args_list_sort _)))
  exact wpAny_pure ⟨_, rfl, h out hs hb⟩
end
end SrtO
namespace A
open PySem PySem.Spec PyProof.Rows L2
/-- sorted ints -/
def insI (x : Int) : List Int → List Int
  | [] => [x]
  | y :: ys => bif decide (x ≤ y) then x :: y :: ys else y :: insI x ys
def sortI : List Int → List Int
  | [] => []
  | x :: xs => insI x (sortI xs)
theorem insI_perm (x : Int) : ∀ ys, (insI x ys).Perm (x :: ys)
  | [] => .refl _
  | y :: ys => by
    unfold insI
    cases h : decide (x ≤ y) with
    | true => exact .refl _
    | false => exact ((insI_perm x ys).cons y).trans (.swap x y ys)
theorem insI_sorted (x : Int) : ∀ ys, ys.Pairwise (· ≤ ·) → (insI x ys).Pairwise (· ≤ ·)
  | [], _ => by simp [insI]
  | y :: ys, h => by
    unfold insI
    cases q : decide (x ≤ y) with
    | true =>
      have hxy : x ≤ y := of_decide_eq_true q
      refine List.Pairwise.cons (fun z hz => ?_) h
      rcases List.mem_cons.mp hz with rfl | hz
      · exact hxy
      · have := List.rel_of_pairwise_cons h hz
        omega
    | false =>
      have hxy : ¬ x ≤ y := of_decide_eq_false q
      have h2 := List.pairwise_cons.mp h
      refine List.Pairwise.cons (fun z hz => ?_) (insI_sorted x ys h2.2)
      have hz := (insI_perm x ys).mem_iff.mp hz
      rcases List.mem_cons.mp hz with rfl | hz
      · omega
      · exact h2.1 z hz
theorem sortI_perm : ∀ xs, (sortI xs).Perm xs
  | [] => .refl _
  | x :: xs => (insI_perm x _).trans ((sortI_perm xs).cons x)
theorem sortI_sorted : ∀ xs, (sortI xs).Pairwise (· ≤ ·)
  | [] => .nil
  | x :: xs => insI_sorted x _ (sortI_sorted xs)
theorem sortI_uniq {xs ys : List Int} (p : ys.Perm xs) (s : ys.Pairwise (· ≤ ·)) : ys = sortI xs :=
  List.Perm.eq_of_pairwise (fun a b _ _ h1 h2 => Int.le_antisymm h1 h2) s (sortI_sorted xs) (p.trans (sortI_perm xs).symm)
/-- sorted of a tuple of ints -/
def rSortedTu (K : PySem.W.Frag) : List V → Hp → VK → Prop := fun vs H Q => ∃ (a : Addr) (ns : List Int), vs = [V.ref a] ∧ SqT K H a (ns.map V.int) ∧ ∀ (ns' : List Int) (p : Addr), ns'.Perm ns → ns'.Pairwise (· ≤ ·) → H p = none → Q (.ref p) (upd H p (.lst (ns'.map V.int)))
section
variable {X : Cx} {c : Ct}
theorem cr_sortedTu : CallR X (.builtin "sorted") (rSortedTu X.K) := by
  intro pins s σ H vs us Q I r h
  obtain ⟨a, ns, rfl, hs, q⟩ := h
  obtain ⟨its, rv, hl, hz⟩ := I.tuple hs
  rw [Vals.ref1 r]
  have hi := rv.ints
  refine SrtO.sorted_ordT SrtO.swo_int hl (by rw [← rv.length]; exact hz) (fun h2 h₁ a' _ _ => SrtO.ints_sortable hi h2) fun out h1 h2 => ?_
  obtain ⟨k1, k2, k3⟩ := SrtO.ints_out hi h1 h2
  obtain ⟨ep, he'⟩ := PyProof.Rows.sortedAll_at s.heap its out.toArray
  have hlen : ((out.map SrtO.iv).map V.int).length ≤ sizeLine := by
    rw [List.length_map, k2.length_eq]
    rw [List.length_map] at hz
    exact hz
  exact ⟨.ref _, upd H (s.heap.objs.size + 1) (.lst ((out.map SrtO.iv).map V.int)), I.laid (t' := s.toks) (fun _ _ => PyProof.Rows.sortedAll_old) (Nat.le_succ _) ⟨hlen, out, ep, vals_of_ints k1, he'⟩, rfl, q _ _ k2 k3 (I.hok.fresh (Nat.le_succ _))⟩
theorem call_sorted2 : CallR X (.builtin "sorted") (fun xs H Q => rSortedI X.K xs H Q ∨ rSortedTu X.K xs H Q) := cr_sortedI.or cr_sortedTu
/-- the ints of a tuple -/
def pInts : List PV → Option (List Int)
  | [] => some []
  | .int i :: r => (pInts r).map (i :: ·)
  | _ :: _ => none
theorem pInts_ok {L : Bool → Addr → Prop} {H : Hp} : ∀ {ps : List PV} {vs : List V} {ns : List Int}, Vls c L H ps vs → pInts ps = some ns → vs = ns.map V.int
  | _, _, ns, .nil, e => by cases e; rfl
  | p :: ps, v :: vs, ns, .cons a r, e => by
    cases p with
    | int i =>
      have e : (pInts ps).map (i :: ·) = some ns := e
      cases q : pInts ps with
      | none => rw [q] at e; cases e
      | some ms =>
        rw [q] at e
        cases e
        rw [pInts_ok r q, Val.int_inv a]; rfl
    | _ => cases e
theorem ints0 {F : Fix} {m : Nat → Addr} {N : Nat} {H : Hp} : ∀ ns : List Int, AVls0 F m N H (ns.map fun i => .v (.int i) false) (ns.map V.int)
  | [] => .nil
  | n :: ns => .cons (.v (.int n)) (ints0 ns)
def fSorted (r : Bool) : List AV → Store → Res AV := fun xs st => match xs with
  | [.v (.tup ps) _] => match pInts ps with
    | some ns => newL r ((sortI ns).map fun i => .v (.int i) false) st
    | none => .bad
  | [x] => match intsOf st x with
    | some ns => newL r ((sortI ns).map fun i => .v (.int i) false) st
    | none => .bad
  | _ => .bad
theorem cr_sortedA (r : Bool) : CRok c (fun xs H Q => rSortedI c.K xs H Q ∨ rSortedTu c.K xs H Q) (fSorted r) := by
  intro W F m st S σ H xs vs Q hc R rx P
  unfold fSorted at P
  have fin : ∀ {ns ns' : List Int} {p : Addr}, ns'.Perm ns → ns'.Pairwise (· ≤ ·) → H p = none → PostE rV W F m st.length H S σ (newL r ((sortI ns).map fun i => .v (.int i) false) st) Q → Q (.ref p) (upd H p (.lst (ns'.map V.int))) := fun {ns ns' p} h1 h2 hp P => by
    rw [sortI_uniq h1 h2]
    exact newL_ok R hp (ints0 _) P
  split at P
  · rename_i ps fr
    cases rx with
    | cons a t =>
    cases t
    cases e : pInts ps with
    | none => rw [e] at P; exact P.elim
    | some ns =>
      rw [e] at P
      obtain ⟨p, vs, rfl, h1, h2⟩ := tup_ok a
      have := pInts_ok h2 e
      subst this
      rw [hc] at h1
      exact .inr ⟨p, ns, rfl, h1, fun ns' q a1 a2 a3 => fin a1 a2 a3 P⟩
  · rename_i x _
    cases rx with
    | cons a t =>
    cases t
    cases e : intsOf st x with
    | none => rw [e] at P; exact P.elim
    | some ns =>
      rw [e] at P
      obtain ⟨p, rfl, h⟩ := intsOf_ok R a e
      rw [hc] at h
      exact .inl ⟨p, ns, rfl, h, fun ns' q a1 a2 a3 => fin a1 a2 a3 P⟩
  · exact P.elim
/-! ### all, any -/
def toBls : List AV → Option (List Bool)
  | [] => some []
  | .v (.bl i) _ :: r => (toBls r).map (i :: ·)
  | _ :: _ => none
theorem toBls_ok {F : Fix} {m : Nat → Addr} {N : Nat} {H : Hp} : ∀ {xs : List AV} {vs : List V} {ns : List Bool}, AVls0 F m N H xs vs → toBls xs = some ns → vs = ns.map V.bl
  | _, _, ns, .nil, e => by cases e; rfl
  | x :: xs, v :: vs, ns, .cons a r, e => by
    cases x with
    | ref n => cases e
    | v p fr =>
      cases p with
      | bl i =>
        have e : (toBls xs).map (i :: ·) = some ns := e
        cases q : toBls xs with
        | none => rw [q] at e; cases e
        | some ms =>
          rw [q] at e
          cases e
          rw [toBls_ok r q]
          cases a with
          | v h => cases h; rfl
      | _ => cases e
def fAll : List AV → Store → Res AV := fun xs st => match xs with
  | [x] => match (listOf st x).bind toBls with
    | some bs => .ok (.v (.bl (bs.all id)) false) st
    | none => .bad
  | _ => .bad
def fAny : List AV → Store → Res AV := fun xs st => match xs with
  | [x] => match (listOf st x).bind toBls with
    | some bs => .ok (.v (.bl (bs.any id)) false) st
    | none => .bad
  | _ => .bad
theorem bls_ok {F : Fix} {m : Nat → Addr} {H : Hp} {S : Slots} {σ : St} {st : Store} (R : Rel F m st S σ H) {x : AV} {v : V} {bs : List Bool} (h : AVal F m st.length H x v) (e : (listOf st x).bind toBls = some bs) : ∃ a, v = .ref a ∧ SqL F.c.K H a (bs.map V.bl) := by
  cases q : listOf st x with
  | none => rw [q] at e; cases e
  | some xs =>
    rw [q] at e
    obtain ⟨a, vs, rfl, h1, r1⟩ := listOf_ok R h q
    have := toBls_ok r1 e
    subst this
    exact ⟨a, rfl, SqL.of h1⟩
theorem cr_allA : CRok c (rAll c.K) fAll := by
  intro W F m st S σ H xs vs Q hc R rx P
  unfold fAll at P
  split at P
  · rename_i x
    cases rx with
    | cons a r =>
      cases r
      cases e : (listOf st x).bind toBls with
      | none => rw [e] at P; exact P.elim
      | some ns =>
        rw [e] at P
        obtain ⟨p, rfl, h⟩ := bls_ok R a e
        rw [hc] at h
        exact ⟨p, ns, rfl, h, PostE.here P R (.v (.bl _) fun e => nomatch e)⟩
  · exact P.elim
theorem cr_anyA : CRok c (rAny c.K) fAny := by
  intro W F m st S σ H xs vs Q hc R rx P
  unfold fAny at P
  split at P
  · rename_i x
    cases rx with
    | cons a r =>
      cases r
      cases e : (listOf st x).bind toBls with
      | none => rw [e] at P; exact P.elim
      | some ns =>
        rw [e] at P
        obtain ⟨p, rfl, h⟩ := bls_ok R a e
        rw [hc] at h
        exact ⟨p, ns, rfl, h, PostE.here P R (.v (.bl _) fun e => nomatch e)⟩
  · exact P.elim
theorem cr_allC (cn : Cn X c) : CallR X (.builtin "all") (rAll X.K) := cr_all cn.calm
theorem cr_anyC (cn : Cn X c) : CallR X (.builtin "any") (rAny X.K) := cr_any cn.calm
end
/-! ### len(set(e)) -/
/-- the ints, each once, as they are met -/
def onceI : List Int → List Int → List Int
  | acc, [] => acc
  | acc, x :: xs => onceI (bif acc.any (· == x) then acc else acc ++ [x]) xs
theorem firstMet_once (ns : List Int) : PyProof.Rows.firstMet (fun i => ns.getD i 0) ns.length = onceI [] ns := by
  have go : ∀ (xs acc : List Int), xs.foldl PyProof.Rows.step_dedup acc = onceI acc xs := fun xs => by
    induction xs with
    | nil => intro acc; rfl
    | cons x xs ih =>
      intro acc
      rw [List.foldl_cons, ih]
      unfold PyProof.Rows.step_dedup
      show onceI (if acc.any (· == x) then acc else acc ++ [x]) xs = onceI (bif acc.any (· == x) then acc else acc ++ [x]) xs
      cases acc.any (· == x) <;> rfl
  unfold PyProof.Rows.firstMet
  have e : (List.range ns.length).map (fun i => ns.getD i 0) = ns := by
    apply List.ext_getElem
    · simp
    · intro i h1 h2
      simp [List.getD_eq_getElem?_getD, List.getElem?_eq_getElem h2]
  rw [e]
  exact go ns []
theorem onceI_le : ∀ (ns acc : List Int), (onceI acc ns).length ≤ acc.length + ns.length
  | [], acc => by simp [onceI]
  | x :: xs, acc => by
    unfold onceI
    have h := onceI_le xs (bif acc.any (· == x) then acc else acc ++ [x])
    cases q : acc.any (· == x) with
    | true => rw [q] at h; simp at h ⊢; omega
    | false => rw [q] at h; simp at h ⊢; omega
def tLenSetJ (K : PySem.W.Frag) (ta : TE) : TE := fun σ H Q => ta σ H fun x H1 => ∃ (l : Addr) (ns : List Int), x = .ref l ∧ SqL K H1 l (ns.map V.int) ∧ ns.length ≤ 4000 ∧ Q (.int ((onceI [] ns).length : Nat)) H1
theorem pe_lenSetJ {X : Cx} {a : Expr} {ta : TE} {p p2 q pos : Pos} (hg : Gl X "len") (hm : X.mg "len" = none) (hg2 : Gl X "set") (hm2 : X.mg "set" = none) (ha : PE X a ta) (hc : X.calm = true)
    (na : starEach [a] X.env = (false, eval a X.env) :: starEach [] X.env := by rfl) : PE X (.Call (.Name "len" p) [.Call (.Name "set" p2) [a] [] q] [] pos) (tLenSetJ X.K ta) := by
  refine ⟨fun pins s σ H Q I h => ?_⟩
  refine Call_ (ld_blt I hg hm boot_len ?_)
  refine PyProof.Rows.callWith_builtin1 (PyProof.Rows.args_cons ?_ rfl) rfl rfl
  refine Call_ (ld_blt I hg2 hm2 boot_set ?_)
  refine PyProof.Rows.callWith_type1 (PyProof.Rows.args_cons (thn (ha.run pins s σ H _ I h) fun v s1 ⟨x, H1, I1, r1, q1⟩ => PyProof.Rows.args_nil ?_) na) na rfl
  obtain ⟨l, ns, rfl, hq, hl, q1⟩ := q1
  cases r1
  obtain ⟨its, r, pl, hz⟩ := I1.list hq
  have hlen : its.toArray.size = ns.length := by rw [List.size_toArray, ← r.length, List.length_map]
  refine call_set_list (I1.ok.hd hc) pl.isList (by simpa using RZ.intsAre_vals r) (by rw [hlen]; unfold scanBound; omega) fun h' tk hS hk => ?_
  refine PyProof.Rows.args_nil ?_
  rw [hlen, firstMet_once] at hS
  have hb := onceI_le ns []
  obtain ⟨o, es, ep, t, ho, hex, hd, _, _, _, hf, hn⟩ := hS
  have I2 : Inv X pins σ H1 { s1 with heap := h', toks := tk } := I1.kept fun b o e => hk b o (Heap.lt_size e) e
  exact call_len_set ho hex hd hf (by rw [hn]; simp at hb; omega) ⟨.int (onceI [] ns).length, H1, I2.tok _, ⟨_, by rw [hn]⟩, q1⟩
/-! ### o[i] op= e -/
def gGetL : V → V → Hp → VK → Prop := fun o i H Q => ∃ p xs k j x, o = V.ref p ∧ i = V.int k ∧ H p = some (.lst xs) ∧ ixN xs.length k = some j ∧ xs[j]? = some x ∧ Q x H
theorem get_list {X : Cx} : PGet X gGetL := by
  intro pins s σ H o i ov iv Q I ro ri h
  obtain ⟨p, xs, k, j, z, rfl, rfl, hp, hj, hx, q⟩ := h
  cases ro
  obtain ⟨t, rfl⟩ := ri
  obtain ⟨its, n, r, ho, hz⟩ := I.lst hp
  obtain ⟨h1, h2, h3, h4⟩ := ixN_seq hj
  have hl := r.length
  have hn := line63
  have pl : s.heap.IsList p its.toArray := ⟨_, ho, rfl, n, rfl⟩
  obtain ⟨w, ew, rw'⟩ := r.get hx
  have fin : EP X pins σ Q w s := ⟨z, H, I, rw', q⟩
  by_cases h0 : 0 ≤ k
  · have hk : k.toNat = j := by
      rw [seqIndex_of h0 h4] at h1
      exact Option.some.inj h1
    exact wpAny_getItem_list pl h0 (by omega) (by rw [hk]; simpa using ew) fin
  · have hk : (k + (its.toArray.size : Int)).toNat = j := by
      rw [seqIndex_neg (by omega) h3] at h1
      rw [List.size_toArray, ← hl]
      exact Option.some.inj h1
    exact wpAny_getItem_list_neg pl (by omega) (by rw [List.size_toArray] <;> omega) (by omega) (by rw [hk]; simpa using ew) fin
/-- o[i] += e, o[i] -= e (ints in a list of the store) -/
def dAugS (neg : Bool) (dob di de : DE) : DS := fun S st => (dob S st).flow S fun x st1 => (di S st1).flow S fun i st2 => match x, i with
  | .ref n, .v (.int k) _ => match lstAt st2 n with
    | some xs => match L2.ixN xs.length k with
      | some j => match (xs[j]?).bind fInts with
        | some a => (de S st2).flow S fun y st3 => match fInts y with
          | some b => match fPut x i (.v (.int (bif neg then a - b else a + b)) false) st3 with
            | some st4 => .nx S st4
            | none => .bad
          | none => .bad
        | none => .bad
      | none => .bad
    | none => .bad
  | _, _ => .bad
theorem psa_augS {X : Cx} {c : Ct} {W : WX} {o i e : Expr} {dob di de : DE} {pos tpos : Pos} (neg : Bool) {op : Operator} (hop : PIp X op (ipI fun i j => bif neg then i - j else i + j)) (ho : PEA X c W o dob) (hi : PEA X c W i di) (he : PEA X c W e de)
    (ha : ∀ ov iv new, augStore i ov iv new = (do holding [new, ov, iv] (setItem ov iv new); release [new, ov, iv] []; pure .next) := by intros; rfl) : PSA X c W (.AugAssign (.Subscript o i tpos) op e pos) (dAugS neg dob di de) := (ps_augS ho hi get_list he hop set_list ha).imp fun D σ H ⟨F, m, s, S, hc, R, P⟩ =>
  ⟨F, m, s, S, hc, R, (PostS.bind P).imp fun v H1 ⟨m1, s1, x, _, a1, R1, r1, P1⟩ => ⟨F, m1, s1, S, hc, R1, (PostS.bind P1).imp fun v2 H2 ⟨m2, s2, y, _, a2, R2, r2, P2⟩ => by
    have r1 := AVal.step a2 r1
    cases x with
    | v p fr => exact P2.elim
    | ref n =>
    cases y with
    | ref _ => exact P2.elim
    | v p fr =>
    cases p with
    | int k =>
      simp only at P2
      cases e0 : lstAt s2 n with
      | none => rw [e0] at P2; exact P2.elim
      | some xs =>
        rw [e0] at P2
        simp only at P2
        cases e1 : L2.ixN xs.length k with
        | none => rw [e1] at P2; exact P2.elim
        | some j =>
          rw [e1] at P2
          simp only at P2
          cases e2 : (xs[j]?).bind fInts with
          | none => rw [e2] at P2; exact P2.elim
          | some a =>
            rw [e2] at P2
            simp only at P2
            obtain ⟨ax, e3, e4⟩ := Option.bind_eq_some_iff.mp e2
            obtain ⟨_, us, hu, ru⟩ := lstAt_ok R2 e0
            cases r1 with
            | ref hn =>
            have ei := isI r2
            subst ei
            obtain ⟨w, f1, f2⟩ := pairedGet ru e3
            have f3 : w = V.int a := by
              unfold fInts at e4
              split at e4
              · cases e4
                cases f2 with
                | v h => exact Val.int_inv h
              · cases e4
            subst f3
            refine ⟨_, us, k, j, _, rfl, rfl, hu, by rw [← Paired.length ru]; exact e1, f1, F, m2, s2, S, hc, R2, (PostS.bind P2).imp fun v3 H3 ⟨m3, s3, z, _, a3, R3, r3, P3⟩ => ?_⟩
            cases e5 : fInts z with
            | none => rw [e5] at P3; exact P3.elim
            | some b =>
              rw [e5] at P3
              simp only at P3
              refine ⟨a, b, rfl, fInts_ok r3 e5, ?_⟩
              cases e6 : fPut (.ref n) (.v (.int k) fr) (.v (.int (bif neg then a - b else a + b)) false) s3 with
              | none => rw [e6] at P3; exact P3.elim
              | some st4 =>
                rw [e6] at P3
                obtain ⟨n', kk, fr', ys, j', h1, h2, el, ej, rfl⟩ := fPut_ok e6
                cases h1
                cases h2
                obtain ⟨hn3, us3, hu3, ru3⟩ := lstAt_ok R3 el
                have hz : AVal0 F m3 s3.length H3 (.v (.int (bif neg then a - b else a + b)) false) (.int (bif neg then a - b else a + b)) := .v (.int _)
                obtain ⟨w3, R'⟩ := R3.write (o := .lst (ys.set j' (A.strip (.v (.int (bif neg then a - b else a + b)) false)))) hn3 (.lst (pairedSet hz.strip0 j' ru3)) (nl el)
                exact ⟨_, us3, k, j', by rw [a3.same n hn], rfl, hu3, by rw [← Paired.length ru3]; exact ej, P3 m3 σ _ w3 R'⟩
    | _ => exact P2.elim⟩⟩
def dLenSet (de : DE) : DE := fun S st => (de S st).then fun x st1 => match intsOf st1 x with
  | some ns => bif Nat.ble ns.length 4000 then .ok (.v (.int ((onceI [] ns).length : Nat)) false) st1 else .bad
  | none => .bad
theorem pea_lenSet {X : Cx} {c : Ct} {W : WX} {a : Expr} {de : DE} {p p2 q pos : Pos} (cn : Cn X c) (hm : X.mg "len" = none) (hm2 : X.mg "set" = none) (ha : PEA X c W a de) (hg : Gl X "len" := by rfl) (hg2 : Gl X "set" := by rfl)
    (na : starEach [a] X.env = (false, eval a X.env) :: starEach [] X.env := by rfl) : PEA X c W (.Call (.Name "len" p) [.Call (.Name "set" p2) [a] [] q] [] pos) (dLenSet de) := (pe_lenSetJ hg hm hg2 hm2 ha cn.calm na).imp fun σ H Q ⟨F, m, s, S, hc, R, P⟩ =>
  ⟨F, m, s, S, hc, R, (PostE.bind P).imp fun v H1 ⟨m1, s1, x, _, a1, R1, r1, P1⟩ => by
    cases e : intsOf s1 x with
    | none => rw [e] at P1; exact P1.elim
    | some ns =>
      rw [e] at P1
      simp only at P1
      cases q : Nat.ble ns.length 4000 with
      | false => rw [q] at P1; exact P1.elim
      | true =>
        rw [q] at P1
        obtain ⟨l, rfl, h⟩ := intsOf_ok R1 r1 e
        exact ⟨l, ns, rfl, by rw [← cn.K, ← hc]; exact h, Nat.le_of_ble_eq_true q, PostE.here P1 R1 (.v (.int _) fun z => nomatch z)⟩⟩
end A

/-! The A-layer, part 22: in over tuples, list times int. -/
namespace A
open PySem PySem.Spec PyProof.Rows L2
def rInT (K : PySem.W.Frag) (neg : Bool) : R2 := fun x y H Q => ∃ d ds, Dp K H x d ∧ Dp K H y (.tuple ds) ∧ SeqAt.shaped d = true ∧ SeqAt.shaped (.tuple ds) = true ∧ Q (.bl (bif neg then !ds.any fun z => PyData.eqv z d else ds.any fun z => PyData.eqv z d)) H
section
variable {X : Cx} {c : Ct}
theorem op_inT (hu : X.A.units + 65 < cLine) : OpR X (compareOp .In) (rInT X.K false) := by
  intro pins s σ H x y v u Q I rx ry h
  obtain ⟨d, ds, hd, he, sd, se, q⟩ := h
  obtain ⟨as, r1⟩ := Dp.reads I d x v hd rx
  obtain ⟨bs, r2⟩ := Dp.reads I (.tuple ds) y u he ry
  exact SeqAt.in_tuple_reads r2 r1 (Bool.and_eq_true_iff.mp se).1 (Bool.and_eq_true_iff.mp sd).1 (room_in_shaped sd hu) ⟨.bl _, H, I, rfl, q⟩
theorem op_notInT (hu : X.A.units + 65 < cLine) : OpR X (compareOp .NotIn) (rInT X.K true) := by
  intro pins s σ H x y v u Q I rx ry h
  obtain ⟨d, ds, hd, he, sd, se, q⟩ := h
  obtain ⟨as, r1⟩ := Dp.reads I d x v hd rx
  obtain ⟨bs, r2⟩ := Dp.reads I (.tuple ds) y u he ry
  exact SeqAt.notIn_tuple_reads r2 r1 (Bool.and_eq_true_iff.mp se).1 (Bool.and_eq_true_iff.mp sd).1 (room_in_shaped sd hu) ⟨.bl _, H, I, rfl, q⟩
def seqD : PyData → Option (List PyData)
  | .list ds => some ds
  | .tuple ds => some ds
  | _ => none
/-- x in y, y a list or a tuple -/
def fInU (neg : Bool) : AV → AV → Store → Res AV := fun x y st => match dataOf st x, dataOf st y with
  | some d, some e => match seqD e with
    | some ds => bif SeqAt.shaped d && SeqAt.shaped e then .ok (.v (.bl (bif neg then !ds.any (fun z => PyData.eqv z d) else ds.any fun z => PyData.eqv z d)) false) st else .bad
    | none => .bad
  | _, _ => .bad
theorem in_core {W : WX} {F : Fix} {m : Nat → Addr} {st : Store} {S : Slots} {σ : St} {H : Hp} {x y : AV} {v w : V} {Q : VK} {neg : Bool} (hc : F.c = c) (R : Rel F m st S σ H) (rx : AVal F m st.length H x v) (ry : AVal F m st.length H y w) (P : PostE rV W F m st.length H S σ (fInU neg x y st) Q) :
    (∃ d ds, Dp c.K H v d ∧ Dp c.K H w (.list ds) ∧ SeqAt.shaped d = true ∧ SeqAt.shaped (.list ds) = true ∧ Q (.bl (bif neg then !ds.any fun z => PyData.eqv z d else ds.any fun z => PyData.eqv z d)) H) ∨ rInT c.K neg v w H Q := by
  unfold fInU at P
  cases e1 : dataOf st x with
  | none => rw [e1] at P; exact P.elim
  | some d =>
    cases e2 : dataOf st y with
    | none => rw [e1, e2] at P; exact P.elim
    | some e =>
      rw [e1, e2] at P
      simp only at P
      cases e3 : seqD e with
      | none => rw [e3] at P; exact P.elim
      | some ds =>
        rw [e3] at P
        simp only at P
        cases q : SeqAt.shaped d && SeqAt.shaped e with
        | false => rw [q] at P; exact P.elim
        | true =>
          rw [q] at P
          rw [Bool.and_eq_true] at q
          have f1 := dataOf_ok R rx.zero e1
          have f2 := dataOf_ok R ry.zero e2
          rw [hc] at f1 f2
          have f3 : Q (.bl (bif neg then !ds.any fun z => PyData.eqv z d else ds.any fun z => PyData.eqv z d)) H := PostE.here P R (.v (.bl _) fun e => nomatch e)
          cases e with
          | list xs => cases e3; exact .inl ⟨d, _, f1, f2, q.1, q.2, f3⟩
          | tuple xs => cases e3; exact .inr ⟨d, _, f1, f2, q.1, q.2, f3⟩
          | _ => cases e3
theorem op_inU (cn : Cn X c) : OpR X (compareOp .In) (fun x y H Q => rInD X.K x y H Q ∨ rInT X.K false x y H Q) := (op_inD (by have := cn.room.un; omega)).or (op_inT (by have := cn.room.un; omega))
theorem op_notInU (cn : Cn X c) : OpR X (compareOp .NotIn) (fun x y H Q => rNotInD X.K x y H Q ∨ rInT X.K true x y H Q) := (op_notInD (by have := cn.room.un; omega)).or (op_notInT (by have := cn.room.un; omega))
theorem r2_inU : R2ok c (fun x y H Q => rInD c.K x y H Q ∨ rInT c.K false x y H Q) (fInU false) := fun W F m st S σ H x y v w Q hc R rx ry P => in_core hc R rx ry P
theorem r2_notinU : R2ok c (fun x y H Q => rNotInD c.K x y H Q ∨ rInT c.K true x y H Q) (fInU true) := fun W F m st S σ H x y v w Q hc R rx ry P => in_core hc R rx ry P
/-- a list times an int -/
def fRep (r : Bool) : AV → AV → Store → Res AV := fun x y st => match y with
  | .v (.int k) _ => match listOf st x with
    | some xs => bif bnd k && Nat.ble (xs.length * k.toNat) 1000000 then newL r (List.replicate k.toNat xs).flatten st else .bad
    | none => .bad
  | _ => .bad
theorem avls0_flat {F : Fix} {m : Nat → Addr} {N : Nat} {H : Hp} {xs : List AV} {vs : List V} (h : AVls0 F m N H xs vs) : ∀ n, AVls0 F m N H (List.replicate n xs).flatten (List.replicate n vs).flatten
  | 0 => .nil
  | n + 1 => by
    rw [List.replicate_succ, List.replicate_succ, List.flatten_cons, List.flatten_cons]
    exact pairedAppend h (avls0_flat h n)
theorem r2_rep (r : Bool) : R2ok c rRep (fRep r) := by
  intro W F m st S σ H x y v w Q hc R rx ry P
  unfold fRep at P
  split at P
  · rename_i k fr
    cases e : listOf st x with
    | none => rw [e] at P; exact P.elim
    | some xs =>
      rw [e] at P
      simp only at P
      cases q : bnd k && Nat.ble (xs.length * k.toNat) 1000000 with
      | false => rw [q] at P; exact P.elim
      | true =>
        rw [q] at P
        rw [Bool.and_eq_true] at q
        obtain ⟨a, vs, rfl, h1, h2⟩ := listOf_ok R rx e
        have hb := bnd_ok q.1
        have hl := Paired.length h2
        refine ⟨a, k, vs, rfl, isI ry, h1, by have := hb.1; omega, by have := hb.2; omega, ?_, fun p hp => newL_ok R hp (avls0_flat h2 _) P⟩
        rw [← hl]; exact le_line q.2
  · exact P.elim
end
end A

/-! The A-layer, part 23: dicts whose keys are tuples: {}, d.get(k, x), d[k] = x, d[k]. -/
namespace A
open PySem PySem.Spec PyProof.Rows L2
def keyP : PV → Option Key
  | .int i => some (.inl i)
  | .str z => some (.inr z)
  | _ => none
def keysP : List PV → Option (List Key)
  | [] => some []
  | p :: ps => match keyP p, keysP ps with
    | some k, some ks => some (k :: ks)
    | _, _ => none
theorem keyP_ok {c : Ct} {L : Bool → Addr → Prop} {H : Hp} {p : PV} {v : V} {k : Key} (h : Val c L H p v) (e : keyP p = some k) : v = kV k := by
  cases h <;> cases e <;> rfl
theorem keysP_ok {c : Ct} {L : Bool → Addr → Prop} {H : Hp} : ∀ {ps : List PV} {vs : List V} {ks : List Key}, Vls c L H ps vs → keysP ps = some ks → vs = ks.map kV
  | _, _, _, .nil, e => by cases e; rfl
  | p :: ps, _, _, .cons h t, e => by
    unfold keysP at e
    cases q : keyP p with
    | none => rw [q] at e; cases e
    | some k =>
      cases q2 : keysP ps with
      | none => rw [q, q2] at e; cases e
      | some ks =>
        rw [q, q2] at e
        cases e
        rw [List.map_cons, keyP_ok h q, keysP_ok t q2]
/-- a tuple as a key -/
def tupKey : AV → Option (List Key)
  | .v (.tup ps) _ => keysP ps
  | _ => none
def dctAt (st : Store) (n : Nat) : Option (List (List Key × AV)) := match st[n]? with
  | some (.dT kvs) => some kvs
  | _ => none
/-- a dict that is read -/
def rdAt (st : Store) (n : Nat) : Option (List (List Key × AV)) := match st[n]? with
  | some (.dT kvs) => some kvs
  | some (.lk kvs) => some kvs
  | _ => none
def getT (kvs : List (List Key × AV)) (k : List Key) : Option AV := (kvs.find? fun kv => decide (kv.1 = k)).map (·.2)
def putT (kvs : List (List Key × AV)) (k : List Key) (y : AV) : List (List Key × AV) := if kvs.any fun kv => decide (kv.1 = k) then kvs.map fun kv => if kv.1 = k then (kv.1, y) else kv else kvs ++ [(k, y)]
section
variable {X : Cx} {c : Ct} {W : WX} {F : Fix} {m : Nat → Addr} {N : Nat} {H : Hp} {S : Slots} {σ : St} {st : Store}
theorem tupKey_ok {x : AV} {v : V} {k : List Key} (h : AVal F m N H x v) (e : tupKey x = some k) : ∃ b, v = .ref b ∧ H b = some (.tup (k.map kV)) := by
  unfold tupKey at e
  split at e
  · obtain ⟨a, vs, rfl, h1, r1⟩ := tup_at h
    rw [keysP_ok r1 e] at h1
    exact ⟨a, rfl, h1⟩
  · cases e
abbrev PT (F : Fix) (m : Nat → Addr) (N : Nat) (H : Hp) : List (List Key × AV) → List (List Key × V) → Prop := Paired (fun p q => p.1 = q.1 ∧ AVal0 F m N H p.2 q.2)
theorem dctAt_ok (R : Rel F m st S σ H) {n : Nat} {kvs : List (List Key × AV)} (e : dctAt st n = some kvs) : n < st.length ∧ ∃ us, H (m n) = some (.dT us) ∧ PT F m st.length H kvs us := by
  unfold dctAt at e
  split at e
  · rename_i ys h
    cases e
    obtain ⟨u, h1, h2⟩ := R.sto n _ h
    cases h2 with
    | dT h2 => exact ⟨(List.getElem?_eq_some_iff.mp h).1, _, h1, h2⟩
  · cases e
theorem rdAt_ok (R : Rel F m st S σ H) {n : Nat} {kvs : List (List Key × AV)} (e : rdAt st n = some kvs) : n < st.length ∧ ∃ us, Rd H (m n) (.dT us) ∧ PT F m st.length H kvs us := by
  unfold rdAt at e
  split at e
  · rename_i ys h
    cases e
    obtain ⟨u, h1, h2⟩ := R.sto n _ h
    cases h2 with
    | dT h2 => exact ⟨(List.getElem?_eq_some_iff.mp h).1, _, .inl h1, h2⟩
  · rename_i ys h
    cases e
    obtain ⟨u, h1, h2⟩ := R.sto n _ h
    cases h2 with
    | lk h2 => exact ⟨(List.getElem?_eq_some_iff.mp h).1, _, .inr ⟨_, h1⟩, h2⟩
  · cases e
theorem nlT {n : Nat} {xs : List (List Key × AV)} (e : dctAt st n = some xs) : ∀ o, st[n]? = some o → o.lkd = false := fun o z => by
  unfold dctAt at e
  rw [z] at e
  cases o <;> first | rfl | cases e
theorem getT_ok {k : List Key} : ∀ {kvs : List (List Key × AV)} {us : List (List Key × V)}, PT F m N H kvs us → (∀ y, getT kvs k = some y → ∃ v, valV us k = some v ∧ AVal0 F m N H y v) ∧ (getT kvs k = none → valV us k = none)
  | _, _, .nil => ⟨fun y e => (by cases e), fun _ => rfl⟩
  | (k1, y1) :: kvs, (k2, v2) :: us, .cons h t => by
    obtain ⟨e1, e2⟩ := h
    obtain rfl : k1 = k2 := e1
    have ih := getT_ok (k := k) t
    by_cases z : k1 = k
    · refine ⟨fun y e => ⟨v2, valV_pos z, ?_⟩, fun e => ?_⟩
      · simp [getT, z] at e
        subst e; exact e2
      · simp [getT, z] at e
    · rw [valV_neg z]
      have q : getT ((k1, y1) :: kvs) k = getT kvs k := by simp [getT, z]
      rw [q]
      exact ih
theorem putT_ok {k : List Key} {y : AV} {v : V} (hy : AVal0 F m N H y v) {kvs : List (List Key × AV)} {us : List (List Key × V)} (h : PT F m N H kvs us) : PT F m N H (putT kvs k y) (putK us k v) := by
  have any_eq : (kvs.any fun kv => decide (kv.1 = k)) = us.any fun kv => decide (kv.1 = k) := by
    induction h with
    | nil => rfl
    | cons h t ih => simp only [List.any_cons, h.1, ih]
  have mp : PT F m N H (kvs.map fun kv => if kv.1 = k then (kv.1, y) else kv) (us.map fun kv => if kv.1 = k then (kv.1, v) else kv) := by
    clear any_eq
    induction h with
    | nil => exact .nil
    | @cons a b as bs h t ih =>
      rw [List.map_cons, List.map_cons]
      refine .cons ?_ ih
      by_cases z : a.1 = k
      · rw [if_pos z, if_pos (h.1 ▸ z)]; exact ⟨h.1, hy⟩
      · rw [if_neg z, if_neg (h.1 ▸ z)]; exact h
  unfold putT putK
  rw [any_eq]
  split
  · exact mp
  · exact pairedAppend h (.cons ⟨rfl, hy⟩ .nil)
end

/-! ### {} -/
def dDictT : DE := fun _ st => .ok (.ref st.length) (st ++ [.dT []])
section
variable {X : Cx} {c : Ct} {W : WX} {o k e f : Expr} {de dk dx : DE} {pos pos' apos cpos : Pos}
theorem pea_dictT : PEA X c W (.Dict [] [] pos) dDictT := pe_dnewT.imp fun σ H Q ⟨F, m, s, S, hc, R, P⟩ => fun p hp => by
  obtain ⟨m', s', R', e⟩ := R.push (o := .dT []) (u := .dT []) hp (same_upd hp) upd_same fun m' s e => .dT .nil
  have := P m' (.ref (m' s.length)) _ s' R' (.ref (by simp))
  rw [e] at this
  exact this
theorem rdGet {H : Hp} {a b : Addr} {kvs : List (List Key × V)} {k : List Key} (e : Rd H a (.dT kvs)) (eb : H b = some (.tup (k.map kV))) : DGet H a (.ref b) (valV kvs k) := .inr ⟨kvs, k, b, e, rfl, eb, rfl⟩
/-! ### d[k] -/
def fTIx (x k : AV) (st : Store) : Res AV := match x with
  | .ref n => match tupKey k, rdAt st n with
    | some ks, some kvs => okV st (getT kvs ks)
    | _, _ => .bad
  | _ => .bad
theorem fTIx_ok {F : Fix} {m : Nat → Addr} {H : Hp} {S : Slots} {σ : St} {st : Store} {x y : AV} {v w : V} {Q : VK} (R : Rel F m st S σ H) (rx : AVal F m st.length H x v) (ry : AVal F m st.length H y w) (P : PostE rV W F m st.length H S σ (fTIx x y st) Q) :
    ∃ a u, v = .ref a ∧ DGet H a w (some u) ∧ Q u H := by
  unfold fTIx at P
  cases rx with
  | v _ _ => exact P.elim
  | @ref n hn =>
    cases q1 : tupKey y with
    | none => simp only [q1] at P; exact P.elim
    | some ks =>
      cases q2 : rdAt st n with
      | none => simp only [q1, q2] at P; exact P.elim
      | some kvs =>
        simp only [q1, q2] at P
        obtain ⟨b, rfl, hb⟩ := tupKey_ok ry q1
        obtain ⟨_, us, hu, ru⟩ := rdAt_ok R q2
        obtain ⟨g1, g2⟩ := getT_ok (k := ks) ru
        cases q3 : getT kvs ks with
        | none => rw [q3] at P; exact P.elim
        | some z =>
          rw [q3] at P
          obtain ⟨u, hv, rz⟩ := g1 z q3
          exact ⟨_, u, rfl, by rw [← hv]; exact rdGet hu hb, PostE.here P R rz.strip⟩
def dTIx (de dk : DE) : DE := fun S st => (de S st).then fun x st1 => (dk S st1).then fun y st2 => fTIx x y st2
theorem pea_tIx (cn : Cn X c) (ho : PEA X c W o de) (hi : PEA X c W k dk) (hs : NoSl k := by intro _ _; rfl) : PEA X c W (.Subscript o k pos) (dTIx de dk) := (pe_dget (by have := cn.room.un; omega) ho hi hs).imp fun σ H Q ⟨F, m, s, S, hc, R, P⟩ =>
  ⟨F, m, s, S, hc, R, (PostE.bind P).imp fun v H1 ⟨m1, s1, x, _, a1, R1, r1, P1⟩ => ⟨F, m1, s1, S, hc, R1, (PostE.bind P1).imp fun w H2 ⟨m2, s2, y, _, a2, R2, r2, P2⟩ => fTIx_ok R2 (AVal.step a2 r1) r2 P2⟩⟩
/-! ### d.get(k, x) -/
def fTGet (x k z : AV) (st : Store) : Res AV := match x with
  | .ref n => match tupKey k, rdAt st n with
    | some ks, some kvs => match getT kvs ks with
      | some y => .ok (A.strip y) st
      | none => .ok z st
    | _, _ => .bad
  | _ => .bad
theorem fTGet_ok {F : Fix} {m : Nat → Addr} {H : Hp} {S : Slots} {σ : St} {st : Store} {x y z : AV} {v w u : V} {Q : VK} (R : Rel F m st S σ H) (rx : AVal F m st.length H x v) (ry : AVal F m st.length H y w) (rz : AVal F m st.length H z u) (P : PostE rV W F m st.length H S σ (fTGet x y z st) Q) :
    ∃ a o, v = .ref a ∧ DGet H a w o ∧ Q (o.getD u) H := by
  unfold fTGet at P
  cases rx with
  | v _ _ => exact P.elim
  | @ref n hn =>
    cases q1 : tupKey y with
    | none => simp only [q1] at P; exact P.elim
    | some ks =>
      cases q2 : rdAt st n with
      | none => simp only [q1, q2] at P; exact P.elim
      | some kvs =>
        simp only [q1, q2] at P
        obtain ⟨b, rfl, hb⟩ := tupKey_ok ry q1
        obtain ⟨_, us, hu, ru⟩ := rdAt_ok R q2
        obtain ⟨g1, g2⟩ := getT_ok (k := ks) ru
        cases q3 : getT kvs ks with
        | none =>
          rw [q3] at P
          exact ⟨_, none, rfl, by rw [← g2 q3]; exact rdGet hu hb, PostE.here P R rz⟩
        | some z =>
          rw [q3] at P
          obtain ⟨u, hv, rz⟩ := g1 z q3
          exact ⟨_, some u, rfl, by rw [← hv]; exact rdGet hu hb, PostE.here P R rz.strip⟩
def isDct (st : Store) : AV → Bool
  | .ref n => (rdAt st n).isSome
  | _ => false
theorem isDct_ok {F : Fix} {m : Nat → Addr} {H : Hp} {S : Slots} {σ : St} {st : Store} {x : AV} {v : V} (R : Rel F m st S σ H) (rx : AVal F m st.length H x v) (e : isDct st x = true) : ∃ a, v = .ref a ∧ IsD H a := by
  cases rx with
  | v _ _ => cases e
  | @ref n hn =>
    cases q : rdAt st n with
    | none => simp [isDct, q] at e
    | some kvs =>
      obtain ⟨_, us, hu, _⟩ := rdAt_ok R q
      exact ⟨_, rfl, .inr ⟨us, hu⟩⟩
def dTGet (de dk dx : DE) : DE := fun S st => (de S st).then fun x st1 => bif isDct st1 x then (dk S st1).then fun y st2 => (dx S st2).then fun z st3 => fTGet x y z st3 else .bad
theorem pea_tGet (cn : Cn X c) (ho : PEA X c W o de) (hi : PEA X c W e dk) (hx : PEA X c W f dx) (hM : M2 X o "get" apos e f cpos := by exact ⟨by rfl, by rfl, by rfl, by rfl⟩) : PEA X c W (.Call (.Attribute o "get" apos) [e, f] [] cpos) (dTGet de dk dx) := (pe_dget2 (by have := cn.room.un; omega) ho hi hx hM).imp fun σ H Q ⟨F, m, s, S, hc, R, P⟩ =>
  ⟨F, m, s, S, hc, R, (PostE.bind P).imp fun v H1 ⟨m1, s1, x, _, a1, R1, r1, P1⟩ => by
    cases q : isDct s1 x with
    | false => rw [q] at P1; exact P1.elim
    | true =>
      rw [q] at P1
      obtain ⟨a, rfl, hd⟩ := isDct_ok R1 r1 q
      refine ⟨a, rfl, hd, F, m1, s1, S, hc, R1, (PostE.bind P1).imp fun w H2 ⟨m2, s2, y, _, a2, R2, r2, P2⟩ => ⟨F, m2, s2, S, hc, R2, (PostE.bind P2).imp fun u H3 ⟨m3, s3, z, _, a3, R3, r3, P3⟩ => ?_⟩⟩
      obtain ⟨a', o', e, g, hq⟩ := fTGet_ok R3 (AVal.step (a2.trans a3) r1) (AVal.step a3 r2) r3 P3
      cases e
      exact ⟨o', g, hq⟩⟩
/-! ### d[k] = x -/
def fTPut (x k y : AV) (st : Store) : Option Store := match x with
  | .ref n => match tupKey k, dctAt st n with
    | some ks, some kvs => bif Nat.blt kvs.length 1000000 then some (st.set n (.dT (putT kvs ks (A.strip y)))) else none
    | _, _ => none
  | _ => none
def dTPut (dv de dk : DE) : DS := fun S st => (dv S st).flow S fun y st1 => (de S st1).flow S fun x st2 => (dk S st2).flow S fun i st3 => match fTPut x i y st3 with
  | some st4 => .nx S st4
  | none => .bad
theorem fTPut_ok {F : Fix} {m : Nat → Addr} {H : Hp} {S : Slots} {σ : St} {st st4 : Store} {x y k : AV} {v w u : V} (R : Rel F m st S σ H) (rx : AVal F m st.length H x v) (rk : AVal F m st.length H k u) (ry : AVal F m st.length H y w) (e : fTPut x k y st = some st4) :
    ∃ a H4, v = .ref a ∧ DPut H a u w H4 ∧ Step m st.length H m st4.length H4 ∧ Rel F m st4 S σ H4 := by
  unfold fTPut at e
  cases rx with
  | v _ _ => cases e
  | @ref n hn =>
    cases q1 : tupKey k with
    | none => simp only [q1] at e; cases e
    | some ks =>
      cases q2 : dctAt st n with
      | none => simp only [q1, q2] at e; cases e
      | some kvs =>
        simp only [q1, q2] at e
        cases q3 : Nat.blt kvs.length 1000000 with
        | false => rw [q3] at e; cases e
        | true =>
          rw [q3] at e
          cases e
          obtain ⟨b, rfl, hb⟩ := tupKey_ok rk q1
          obtain ⟨_, us, hu, ru⟩ := dctAt_ok R q2
          obtain ⟨a, R'⟩ := R.write (o := .dT (putT kvs ks (A.strip y))) hn (.dT (putT_ok ry.zero.strip0 ru)) (nlT q2)
          exact ⟨_, _, rfl, DPut.t hu hb (by rw [← Paired.length ru]; exact lt_line q3), a, R'⟩
theorem psa_tPut (cn : Cn X c) (he : PEA X c W e dx) (ho : PEA X c W o de) (hi : PEA X c W k dk) (hs : swapsWith e (some (.Subscript o k pos')) pos.line X.env = pure false := by rfl) : PSA X c W (.Assign [.Subscript o k pos'] e pos) (dTPut dx de dk) := (ps_dput (by have := cn.room.un; omega) ho hi he hs).imp fun D σ H ⟨F, m, s, S, hc, R, P⟩ =>
  ⟨F, m, s, S, hc, R, (PostS.bind P).imp fun v H1 ⟨m1, s1, y, _, a1, R1, r1, P1⟩ => ⟨F, m1, s1, S, hc, R1, (PostS.bind P1).imp fun v2 H2 ⟨m2, s2, x, _, a2, R2, r2, P2⟩ => ⟨F, m2, s2, S, hc, R2, (PostS.bind P2).imp fun v3 H3 ⟨m3, s3, k, _, a3, R3, r3, P3⟩ => by
    cases q : fTPut x k y s3 with
    | none => rw [q] at P3; exact P3.elim
    | some st4 =>
      rw [q] at P3
      obtain ⟨a, H4, e, g, z, R4⟩ := fTPut_ok R3 (AVal.step a3 r2) r3 (AVal.step (a2.trans a3) r1) q
      exact ⟨a, H4, e, g, P3 m3 σ _ z R4⟩⟩⟩⟩
end
end A

/-! The A-layer, part 24: a dict with tuple keys is walked: for k in d. -/
namespace A
open PySem PySem.Spec PyProof.Rows L2
def lkAt (st : Store) (n : Nat) : Option (List (List Key × AV)) := match st[n]? with
  | some (.lk kvs) => some kvs
  | _ => none
def keyV (k : List Key) : PV := .tup (k.map fun x => match x with
  | .inl i => .int i
  | .inr z => .str z)
/-- the keys of the dict that is locked just now -/
def dKeysT (de : DE) : DA := fun S st => (de S st).then fun x st1 => match x with
  | .ref n => match lkAt st1 n with
    | some kvs => .ok (kvs.map fun kv => .v (keyV kv.1) false) st1
    | none => .bad
  | _ => .bad
def dLock (i : Nat) (d : DS) : DS := fun S st => match S[i]? with
  | some (some (.ref n)) => match dctAt st n with
    | some kvs => match d S (st.set n (.lk kvs)) with
      | .nx S' st' => match lkAt st' n with
        | some kvs' => .nx S' (st'.set n (.dT kvs'))
        | none => .bad
      | .rt x st' => match lkAt st' n with
        | some kvs' => .rt x (st'.set n (.dT kvs'))
        | none => .bad
      | _ => .bad
    | none => .bad
  | _ => .bad
def Fix.lk (F : Fix) (d : Addr) (o : HO) : Fix := { F with
  H0 := upd F.H0 d o
  O0 := fun a => F.O0 a ∨ a = d
  hA := fun p hp => F.hA p (by
    by_cases e : p = d
    · subst e; rw [upd_same] at hp; cases hp
    · rwa [upd_ne e] at hp) }
section
variable {X : Cx} {c : Ct} {W : WX} {F : Fix} {m m' : Nat → Addr} {N N' n : Nat} {H H' : Hp} {S : Slots} {σ : St} {st : Store} {d : Addr} {ob : Obj} {us : List (List Key × V)}
theorem lk_av (hd : H d = some (.frz ob (.dT us))) {x : AV} {v : V} (h : AVal F m N H x v) : AVal (F.lk d (.frz ob (.dT us))) m N H x v := by
  cases h with
  | ref h => exact .ref h
  | v h f =>
    refine .v h fun e => ?_
    obtain ⟨t, xs, a, vs, e1, e2, h0, ha, r⟩ := f e
    refine ⟨t, xs, a, vs, e1, e2, ?_, ha, r⟩
    show upd F.H0 d _ a = none
    rw [upd_ne (fun z => by rw [z, hd] at ha; cases ha)]
    exact h0
theorem lk_va {x : AV} {v : V} (h : AVal (F.lk d (.frz ob (.dT us))) m N H x v) : AVal F m N H x v := by
  cases h with
  | ref h => exact .ref h
  | v h f =>
    refine .v h fun e => ?_
    obtain ⟨t, xs, a, vs, e1, e2, h0, ha, r⟩ := f e
    refine ⟨t, xs, a, vs, e1, e2, ?_, ha, r⟩
    have h0 : upd F.H0 d (.frz ob (.dT us)) a = none := h0
    by_cases z : a = d
    · rw [z, upd_same] at h0; cases h0
    · rwa [upd_ne z] at h0
theorem Rel.lkF (R : Rel F m st S σ H) (hd : H d = some (.frz ob (.dT us))) : Rel (F.lk d (.frz ob (.dT us))) m st S σ H where
  inj := R.inj
  own := fun i hi => by
    by_cases z : m i = d
    · exact .inl (.inr z)
    · rcases R.own i hi with q | q
      · exact .inl (.inl q)
      · refine .inr ?_
        show upd F.H0 d _ (m i) = none
        rw [upd_ne z]; exact q
  tab := R.tab
  keep := fun b o h1 h2 nt => by
    have z : b ≠ d := fun z => h2 (.inr z)
    have h1 : upd F.H0 d _ b = some o := h1
    rw [upd_ne z] at h1
    exact R.keep b o h1 (fun q => h2 (.inl q)) nt
  imm := fun b o h1 h2 => by
    have h1 : upd F.H0 d _ b = some o := h1
    by_cases z : b = d
    · rw [z, upd_same] at h1; cases h1; rw [z]; exact hd
    · rw [upd_ne z] at h1; exact R.imm b o h1 h2
  dom := fun b h => by
    by_cases z : b = d
    · rw [z, hd]; simp
    · have h : upd F.H0 d _ b ≠ none := h
      rw [upd_ne z] at h; exact R.dom b h
  zd := R.zd
  sto := fun i o e => by
    obtain ⟨u, h1, h2⟩ := R.sto i o e
    exact ⟨u, h1, AObj.ground (F := F) (F' := F.lk d (.frz ob (.dT us))) rfl (fun t a l _ => l) h2⟩
  len := R.len
  slo := fun i x e => by
    obtain ⟨v, h1, h2⟩ := R.slo i x e
    exact ⟨v, h1, lk_av hd h2⟩
mutual
theorem Val.unlk {L : Bool → Addr → Prop} {nv : HO} (hd : ∀ o, H d = some o → o = .frz ob (.dT us)) (hL : ∀ t, ¬ L t d) : ∀ {p : PV} {v : V}, Val c L H p v → Val c L (upd H d nv) p v
  | _, _, .non => .non
  | _, _, .bl b => .bl b
  | _, _, .int i => .int i
  | _, _, .str x => .str x
  | _, _, .tup h r => .tup (by rw [upd_ne (fun z => by rw [z] at h; have := hd _ h; cases this)]; exact h) (Vls.unlk hd hL r)
  | _, _, .lst h l r => .lst (by rw [upd_ne (fun z => hL _ (z ▸ l))]; exact h) l (Vls.unlk hd hL r)
  | _, _, .dct h z l r => .dct (by rw [upd_ne (fun z => hL _ (z ▸ l))]; exact h) z l (Vls.unlk hd hL r)
  | _, _, .obj h z l r => .obj (by rw [upd_ne (fun z => hL _ (z ▸ l))]; exact h) z l (Vls.unlk hd hL r)
  | _, _, .scr h => .scr (by
    rcases h with ⟨o, h, l⟩ | h
    · exact .inl ⟨o, by rw [upd_ne (fun z => hL _ (z ▸ l))]; exact h, l⟩
    · exact .inr h)
  | _, _, .ty n => .ty n
  | _, _, .cls n => .cls n
  | _, _, .exn h => .exn (by rw [upd_ne (fun z => by rw [z] at h; have := hd _ h; cases this)]; exact h)
theorem Vls.unlk {L : Bool → Addr → Prop} {nv : HO} (hd : ∀ o, H d = some o → o = .frz ob (.dT us)) (hL : ∀ t, ¬ L t d) : ∀ {p : List PV} {v : List V}, Vls c L H p v → Vls c L (upd H d nv) p v
  | _, _, .nil => .nil
  | _, _, .cons h r => .cons (Val.unlk hd hL h) (Vls.unlk hd hL r)
end
theorem AVal.unlk {nv : HO} (hd : H d = some (.frz ob (.dT us))) (hm : ∀ t, ¬ Lw F m N t d) {x : AV} {v : V} (h : AVal F m N H x v) : AVal F m N (upd H d nv) x v := by
  have hd' : ∀ o, H d = some o → o = .frz ob (.dT us) := fun o e => by rw [hd] at e; cases e; rfl
  cases h with
  | ref h => exact .ref h
  | v h f =>
    refine .v (Val.unlk hd' hm h) fun e => ?_
    obtain ⟨t, xs, a, vs, e1, e2, h0, ha, r⟩ := f e
    refine ⟨t, xs, a, vs, e1, e2, h0, ?_, Vls.unlk hd' (fun t q => hm t q.1) r⟩
    rw [upd_ne (fun z => by rw [z, hd] at ha; cases ha)]
    exact ha
theorem AVal0.unlk {nv : HO} (hd : H d = some (.frz ob (.dT us))) (hm : ∀ t, ¬ Lw F m N t d) {x : AV} {v : V} (h : AVal0 F m N H x v) : AVal0 F m N (upd H d nv) x v := by
  have hd' : ∀ o, H d = some o → o = .frz ob (.dT us) := fun o e => by rw [hd] at e; cases e; rfl
  cases h with
  | ref h => exact .ref h
  | v h => exact .v (Val.unlk hd' hm h)
theorem AObj.unlk {nv : HO} (hd : H d = some (.frz ob (.dT us))) (hm : ∀ t, ¬ Lw F m N t d) {o : AO} {u : HO} (h : AObj F m N H o u) : AObj F m N (upd H d nv) o u := by
  cases h with
  | lst h => exact .lst (Paired.mapP h fun _ _ => AVal0.unlk hd hm)
  | dK h => exact .dK (Paired.mapP h fun a b z => ⟨z.1, AVal0.unlk hd hm z.2⟩)
  | dT h => exact .dT (Paired.mapP h fun a b z => ⟨z.1, AVal0.unlk hd hm z.2⟩)
  | lk h => exact .lk (Paired.mapP h fun a b z => ⟨z.1, AVal0.unlk hd hm z.2⟩)
  | lkK h => exact .lkK (Paired.mapP h fun a b z => ⟨z.1, AVal0.unlk hd hm z.2⟩)
  | lkL h => exact .lkL (Paired.mapP h fun _ _ => AVal0.unlk hd hm)
  | ins h => exact .ins (Paired.mapP h fun a b z => ⟨z.1, AVal0.unlk hd hm z.2⟩)
/-- the walk is over -/
theorem unlock {st' : Store} {S' : Slots} {σ' : St} {kvs' : List (List Key × AV)} (R : Rel F m st S σ H) (hn : n < st.length) (hd : H (m n) = some (.dT us)) (s : Step m st.length (upd H (m n) (.frz ob (.dT us))) m' st'.length H') (R' : Rel (F.lk (m n) (.frz ob (.dT us))) m' st' S' σ' H') (e : lkAt st' n = some kvs') :
    H' (m n) = some (.frz ob (.dT us)) ∧ Step m st.length H m' (st'.set n (.dT kvs')).length (upd H' (m n) (.dT us)) ∧ Rel F m' (st'.set n (.dT kvs')) S' σ' (upd H' (m n) (.dT us)) ∧ ∀ x v, AVal (F.lk (m n) (.frz ob (.dT us))) m' st'.length H' x v → AVal F m' (st'.set n (.dT kvs')).length (upd H' (m n) (.dT us)) x v := by
  have hq : H' (m n) = some (.frz ob (.dT us)) := R'.imm _ _ (show upd F.H0 (m n) _ (m n) = _ from upd_same) rfl
  have hn' : n < st'.length := Nat.lt_of_lt_of_le hn s.le
  have em : m' n = m n := s.same n hn
  have e0 : st'[n]? = some (.lk kvs') := by
    unfold lkAt at e
    split at e
    · cases e; assumption
    · cases e
  have ro : Paired (fun (p : List Key × AV) (q : List Key × V) => p.1 = q.1 ∧ AVal0 F m' st'.length H' p.2 q.2) kvs' us := by
    obtain ⟨u, h1, h2⟩ := R'.sto n _ e0
    rw [em, hq] at h1
    cases h1
    have h2 := AObj.ground (F := F.lk (m n) (.frz ob (.dT us))) (F' := F) rfl (fun t a l _ => l) h2
    cases h2 with
    | lk h => exact h
  have hm : ∀ t, ¬ Lw F m' st'.length t (m n) := fun t q => q.2.2 n hn' em
  have hl : (st'.set n (AO.dT kvs')).length = st'.length := List.length_set
  have hb : ∀ b, b ≠ m n → upd H (m n) (HO.frz ob (.dT us)) b = H b := fun b z => upd_ne z
  rw [hl]
  refine ⟨hq, ⟨s.le, s.same, fun i h1 h2 => ?_, fun b o h k nt => ?_, fun b h => ?_, fun b o h q => ?_⟩, ?_, fun x v h => AVal.unlk hq hm (lk_va h)⟩
  · have := s.new i h1 h2
    by_cases z : m' i = m n
    · rw [z, upd_same] at this; cases this
    · rwa [upd_ne z] at this
  · have z : b ≠ m n := fun z => k n hn z.symm
    rw [upd_ne z]
    exact s.keep b o (by rw [upd_ne z]; exact h) k nt
  · by_cases z : b = m n
    · rw [z, upd_same]; simp
    · rw [upd_ne z]
      exact s.dom b (by rw [upd_ne z]; exact h)
  · have z : b ≠ m n := fun z => by rw [z, hd] at h; cases h; cases q
    rw [upd_ne z]
    exact s.imm b o (by rw [upd_ne z]; exact h) q
  refine ⟨fun i j hi hj => R'.inj i j (by simpa using hi) (by simpa using hj), fun i hi => ?_, fun b o h1 h2 nt => ?_, fun b o h1 h2 => ?_, fun b h => ?_, fun b h => ⟨?_, fun i hi => (R'.zd b h).2 i (by simpa using hi)⟩, fun i o ei => ?_, R'.len, fun i x ei => ?_, tabs_upd0 R'.tab hq rfl fun c q z => by cases z⟩
  · rw [hl] at hi
    by_cases z : m' i = m n
    · rw [z]; exact R.own n hn
    · rcases R'.own i hi with q | q
      · rcases q with q | q
        · exact .inl q
        · exact absurd q z
      · have q : upd F.H0 (m n) _ (m' i) = none := q
        rw [upd_ne z] at q
        exact .inr q
  · have z : b ≠ m n := fun z => by
      rcases R.own n hn with q | q
      · exact h2 (z ▸ q)
      · rw [z, q] at h1; cases h1
    rw [upd_ne z]
    exact R'.keep b o (by show upd F.H0 (m n) _ b = _; rw [upd_ne z]; exact h1) (fun q => q.elim h2 z) nt
  · have z : b ≠ m n := fun z => by
      have := R.imm b o h1 h2
      rw [z, hd] at this
      cases this; cases h2
    rw [upd_ne z]
    exact R'.imm b o (by show upd F.H0 (m n) _ b = _; rw [upd_ne z]; exact h1) h2
  · by_cases z : b = m n
    · rw [z, upd_same]; simp
    · rw [upd_ne z]
      exact R'.dom b (by show upd F.H0 (m n) _ b ≠ _; rw [upd_ne z]; exact h)
  · by_cases z : b = m n
    · rw [z, upd_same]; simp
    · rw [upd_ne z]
      exact (R'.zd b h).1
  · rw [hl]
    by_cases a : i = n
    · subst a
      rw [List.getElem?_set_self hn'] at ei
      cases ei
      exact ⟨.dT us, by rw [em]; exact upd_same, .dT (Paired.mapP ro fun a b z => ⟨z.1, AVal0.unlk hq hm z.2⟩)⟩
    · rw [List.getElem?_set_ne (Ne.symm a)] at ei
      obtain ⟨u', q1, q2⟩ := R'.sto i o ei
      have hi := (List.getElem?_eq_some_iff.mp ei).1
      refine ⟨u', ?_, AObj.unlk hq hm (AObj.ground (F := F.lk (m n) (.frz ob (.dT us))) (F' := F) rfl (fun t a l _ => l) q2)⟩
      rw [upd_ne (fun z => a (R'.inj i n hi hn' (by rw [em]; exact z)))]
      exact q1
  · rw [hl]
    obtain ⟨v, q1, q2⟩ := R'.slo i x ei
    exact ⟨v, q1, AVal.unlk hq hm (lk_va q2)⟩
theorem psa_lock {s : Stmt} {dl : DS} (i : Nat) (h : PSA X c W s dl) : PSA X c W s (dLock i dl) := (ps_lock h).imp fun D σ H ⟨F, m, st, S, hc, R, P⟩ => by
  unfold dLock at P
  split at P
  · rename_i n _
    cases q : dctAt st n with
    | none => rw [q] at P; exact P.elim
    | some kvs =>
      rw [q] at P
      simp only at P
      obtain ⟨hn, us, hu, ru⟩ := dctAt_ok R q
      refine ⟨m n, .dT us, hu, True.intro, fun od => ?_⟩
      obtain ⟨w, R1⟩ := R.write (o := .lk kvs) (u := .frz od (.dT us)) hn (.lk ru) (nlT q)
      have hl : (st.set n (AO.lk kvs)).length = st.length := List.length_set
      refine ⟨F.lk (m n) (.frz od (.dT us)), m, st.set n (.lk kvs), S, hc, R1.lkF upd_same, ?_⟩
      cases e : dl S (st.set n (.lk kvs)) with
      | nx S' st' =>
        rw [e] at P
        simp only at P
        cases e2 : lkAt st' n with
        | none => rw [e2] at P; exact P.elim
        | some kvs' =>
          rw [e2] at P
          intro m' σ' H' a b
          rw [hl] at a
          obtain ⟨u1, u2, u3, _⟩ := unlock R hn hu a b e2
          exact ⟨u1, P m' σ' _ u2 u3⟩
      | rt x st' =>
        rw [e] at P
        simp only at P
        cases e2 : lkAt st' n with
        | none => rw [e2] at P; exact P.elim
        | some kvs' =>
          rw [e2] at P
          intro m' v H' a b r
          rw [hl] at a
          obtain ⟨u1, u2, u3, u4⟩ := unlock R hn hu a b e2
          exact ⟨u1, P m' v _ u2 u3 (u4 _ _ r)⟩
      | bk S' st' => rw [e] at P; exact P.elim
      | ct S' st' => rw [e] at P; exact P.elim
      | ex x S' st' => rw [e] at P; exact P.elim
      | bad => rw [e] at P; exact P.elim
  · exact P.elim
theorem keys_vls {L : Bool → Addr → Prop} : ∀ k : List Key, Vls c L H (k.map fun x => match x with
  | .inl i => PV.int i
  | .inr z => .str z) (k.map kV)
  | [] => .nil
  | .inl i :: k => .cons (.int i) (keys_vls k)
  | .inr z :: k => .cons (.str z) (keys_vls k)
theorem walk_keysA {kvs : List (List Key × AV)} (hl : kvs.map (·.1) = us.map (·.1)) : WalkA c (Itkt d ob us) (kvs.map fun kv => .v (keyV kv.1) false) (fun F m N H => H d = some (.frz ob (.dT us))) where
  stay := fun F m N H m' N' H' s h => s.imm _ _ h rfl
  av := fun F m N H a ha h => h
  over := fun F m N H D acc acc' hz hD h => by
    show upd H D _ d = _
    rw [upd_ne (fun z => by rw [← z, h] at hD; cases hD)]
    exact h
  stop := fun F m st S σ H hc R h => ⟨h, by
    have := congrArg List.length hl
    simp only [List.length_map] at this ⊢
    omega⟩
  go := fun F m st S σ H i x hc R h e => ⟨h, by
    have h1 := (List.getElem?_eq_some_iff.mp e).1
    have := congrArg List.length hl
    simp only [List.length_map] at this h1
    omega⟩
  yld := fun F m st S σ H i x v H' hc R h e y => by
    obtain ⟨rfl, k, u, q, h1, rfl, h2⟩ := y
    refine ⟨fun b o h => h, ?_⟩
    rw [List.getElem?_map] at e
    have hk : (kvs.map (·.1))[i]? = some k := by rw [hl, List.getElem?_map, h1]; rfl
    rw [List.getElem?_map] at hk
    cases e2 : kvs[i]? with
    | none => rw [e2] at e; cases e
    | some kv =>
      rw [e2] at e hk
      cases e
      have hk : kv.1 = k := by simpa using hk
      show AVal F m st.length H' (.v (keyV kv.1) false) _
      rw [hk]
      exact .v (.tup h2 (keys_vls k)) fun e => nomatch e
theorem pia_keysT {tg e : Expr} {de : DE} (he : PEA X c W e de) : PIA X c W tg e (dKeysT de) := (pi_keys he).imp fun σ H R ⟨F, m, s, S, hc, R0, P⟩ =>
  ⟨F, m, s, S, hc, R0, (PostI.bind P).imp fun v H1 ⟨m1, s1, x, _, a1, R1, r1, P1⟩ => by
    cases x with
    | v p fr => exact P1.elim
    | ref n =>
      cases r1 with
      | ref hn =>
      simp only at P1
      cases q : lkAt s1 n with
      | none => rw [q] at P1; exact P1.elim
      | some kvs =>
        rw [q] at P1
        have e0 : s1[n]? = some (.lk kvs) := by
          unfold lkAt at q
          split at q
          · cases q; assumption
          · cases q
        obtain ⟨u, h1, h2⟩ := R1.sto n _ e0
        cases h2 with
        | lk h2 =>
          have hl := zip_fst (fun _ _ (h : _ ∧ _) => h.1) h2
          exact ⟨_, _, rfl, .inr ⟨_, h1, PostI.here P1 R1 (walk_keysA (by
            clear hl P1 h1 e0 q
            induction h2 with
            | nil => rfl
            | cons h t ih => simp only [List.map_cons, h.1, ih])) h1⟩⟩⟩
end
end A

/-! The A-layer, part 25: for k, x in d.items() of a dict with tuple keys. -/
namespace A
open PySem PySem.Spec PyProof.Rows L2
def Itit (d : Addr) (o : Obj) (kvs : List (List Key × V)) : It :=
  ⟨fun i H => H d = some (.frz o (.dT kvs)) ∧ i < kvs.length, fun i H x H' => ∃ (T : Addr) (k : List Key) (v : V) (q : Addr), kvs[i]? = some (k, v) ∧ H q = some (.tup (k.map kV)) ∧ x = .ref T ∧ H T = none ∧ H' = upd H T (.tup [.ref q, v]), fun i H => H d = some (.frz o (.dT kvs)) ∧ kvs.length ≤ i⟩
section
variable {X : Cx} {pins : List (Addr × Obj)} {σ : St} {H : Hp} {s : Shared} {d : Addr} {o : Obj}
theorem frzT2 {kvs : List (List Key × V)} (I : Inv X pins σ H s) (h : H d = some (.frz o (.dT kvs))) :
    (d == sysModules) = false ∧ s.heap.get? d = some o ∧ o.ExactDict ∧ ∃ (es : Array DictEntry) (ep : Nat), o.data = .dict es ep ∧ es.size = kvs.length ∧
      ∀ (i : Nat) (k : List Key) (v : V), kvs[i]? = some (k, v) → ∃ (en : DictEntry) (q : Addr), es[i]? = some en ∧ en.key = .ref q ∧ H q = some (.tup (k.map kV)) ∧ RelV v en.val := by
  obtain ⟨hd, z, hs, xs, pr, o', es, ep, ho, hx, hdt, he, _⟩ := I.hok d _ h
  rw [hd] at ho
  cases ho
  refine ⟨hs, hd, hx, es, ep, hdt, ?_, fun i k v e => ?_⟩
  · have l1 : es.size = xs.length := size_of_entries he
    have l2 : kvs.length = xs.length := Paired.length pr
    omega
  · obtain ⟨b, hb, e1, e2, e3⟩ := L2.paired_get pr e
    have q := entry_at he i
    rw [hb] at q
    exact ⟨_, b.2.1, q, rfl, e2, e3⟩
end
section
variable {P : Program} {w : World} {K : PySem.W.Frag} {d : Addr} {o : Obj} {es : Array DictEntry} {ep : Nat}
theorem turn_itemsT {kvs : List (List Key × V)} {elts : List Expr} {kk : Nat} {tpos : Pos} (it : Addr) (hod : o.data = .dict es ep) :
    Turn P w K (.Tuple elts kk tpos) (Itit d o kvs) [it] it (fun i h => ∃ ok ov, IsItemIter h it d i kvs.length ep ok ov) where
  mem := by simp
  obj := fun i h st b hb => by
    have e : b = it := by simpa using hb
    subst e
    obtain ⟨ok, ov, e⟩ := st
    exact ⟨_, e, fun v z => nomatch z⟩
  keep := fun i h h' st k => let ⟨ok, ov, e⟩ := st; ⟨ok, ov, k it (by simp) _ e⟩
  item := by
    intro X hP hw hK hc i pins s σ H E I hf st hg
    subst hP hw hK
    obtain ⟨hd, hi⟩ := hg
    obtain ⟨hs, hgd, hx, es', ep', hdt, hsz, ent⟩ := frzT2 I hd
    obtain ⟨rfl, rfl⟩ := dict_ep hod hdt
    obtain ⟨⟨k, v⟩, hkv⟩ : ∃ p, kvs[i]? = some p := ⟨kvs[i], List.getElem?_eq_getElem hi⟩
    obtain ⟨en, q, hen, hkey, hq, rv⟩ := ent i k v hkv
    obtain ⟨ok, ov, he⟩ := st
    rw [← hsz] at he
    have hlt : it < s.heap.objs.size := Heap.lt_size he
    have hi' : i < es'.size := by omega
    have een : es'[i] = en := by
      have := Array.getElem?_eq_getElem hi'
      rw [this] at hen
      exact Option.some.inj hen
    refine wpAny_pyNext_items_item_raw he ⟨o, hgd, hx, hdt⟩ hi' fun h' ho hT hz hk => ?_
    rw [een] at ho hT
    refine ⟨_, rfl, wpAny_letOwnedTupleGo_items (s := { s with heap := h' }) ho fun h'' he' sb => ?_⟩
    have hT2 : h''.get? s.heap.objs.size = some { cls := .type "tuple", data := .seq #[en.key, en.val] } := (sb.2 _ (Nat.ne_of_gt hlt)).trans hT
    have new : ObjOk X.prog X.w (upd H s.heap.objs.size (.tup [.ref q, v])) h'' s.heap.objs.size (.tup [.ref q, v]) :=
      ⟨by show 2 ≤ sizeLine; decide, [en.key, en.val], .cons hkey (.cons rv .nil), ⟨_, hT2, rfl, _, rfl⟩⟩
    have I1 : Inv X pins σ (upd H s.heap.objs.size (.tup [.ref q, v])) { s with heap := h'' } :=
      I.turnedNew (t' := s.toks) (ch := [it]) (fun b ob hb e => (sb.2 b (by simpa using hb)).trans (hk b ob (by simpa using hb) e)) hf (Nat.le_refl _) new
    refine ⟨.ref s.heap.objs.size, _, I1, rfl, ⟨_, k, v, q, hkv, hq, rfl, I.hok.fresh (Nat.le_refl _), rfl⟩, ⟨en.key, en.val, ?_⟩, fun b hb => ?_⟩
    · rw [← hsz]; exact he'
    · have e : b = it := by simpa using hb
      rw [e, upd_ne (Nat.ne_of_lt hlt)]
      exact (hf it (by simp)).1
  done := by
    intro X hP hw hK hc i pins s σ H E I hf st hg
    subst hP hw hK
    obtain ⟨hd, hi⟩ := hg
    obtain ⟨f0, f1, f2, f3, f4, f5⟩ := hf it (by simp)
    obtain ⟨hs, hgd, hx, es', ep', hdt, hsz, ent⟩ := frzT2 I hd
    obtain ⟨rfl, rfl⟩ := dict_ep hod hdt
    obtain ⟨ok, ov, he⟩ := st
    rw [← hsz] at he
    exact wpAny_pyNext_items_end_raw (I.ok.hd hc) he ⟨o, hgd, hx, hdt⟩ (by omega) fun h' eb => ⟨rfl, I.turned (t' := s.toks) (fun b ob hb e => eb b ob hb e) f0 f1 f3 f4 f5⟩
  self := fun A i s Q E st h => let ⟨_, _, e⟩ := st; PySem.W.kcp_self e h
end
def iItemsT (td : TE) : TI := fun σ H R => td σ H fun x H1 => ∃ d o kvs, x = .ref d ∧ H1 d = some (.frz o (.dT kvs)) ∧ R (Itit d o kvs) H1
theorem pi_itemsT {X : Cx} {e : Expr} {td : TE} {apos cpos : Pos} {elts : List Expr} {kk : Nat} {tpos : Pos} (he : PE X e td) (hbase : attributeBase e "items" X.env (eval e X.env) = eval e X.env := by rfl) (hline : (apos.endLine == cpos.line) = true := by rfl) :
    PI X (.Tuple elts kk tpos) (.Call (.Attribute e "items" apos) [] [] cpos) (iItemsT td) := by
  refine ⟨fun pins s σ H R I h => ?_⟩
  refine wpAny_Call_method (T := "dict") (id := "dict.items") hbase rfl hline PySem.F.plainAttrs_dict PySem.F.slot_dict_items PySem.F.type_dict_items (thn (he.run pins s σ H _ I h) fun u s1 ⟨x, H1, I1, rx, d, o, kvs, ex, hd, q⟩ => ?_)
  subst ex
  obtain rfl : u = Value.ref d := rx
  obtain ⟨hs, hgd, hx, es, ep, hdt, hsz, ent⟩ := frzT2 I1 hd
  have hr : s1.heap.DictRaw d es ep := ⟨o, hgd, hx, hdt⟩
  refine ⟨⟨o, hgd, hx.1⟩, fun b q => by cases q; exact ⟨o, hgd, hx.2.1⟩, ?_⟩
  have I2 : Inv X pins σ H1 { s1 with heap := s1.heap.push { cls := .type "dict_items", data := .fields #[.ref d] } } := I1.kept (t' := s1.toks) fun b ob q => Heap.get?_push_of_some _ q
  have hr2 : (s1.heap.push { cls := .type "dict_items", data := .fields #[.ref d] }).DictRaw d es ep := ⟨o, Heap.get?_push_of_some _ hgd, hx, hdt⟩
  have fin : wpAny (model X.prog X.w) X.A (pyIter (.ref s1.heap.objs.size)) (PIE X pins σ (.Tuple elts kk tpos) R) X.xe { s1 with heap := s1.heap.push { cls := .type "dict_items", data := .fields #[.ref d] } } := by
    refine wpAny_pyIter_items_raw (d := d) ⟨_, Heap.get?_push_size _ rfl, rfl, rfl⟩ hr2 (pi_one (tk := s1.toks) I2 _ (turn_itemsT _ hdt) ⟨.none, .none, ?_⟩ q)
    rw [← hsz]
    exact Heap.get?_push_size _ rfl
  show wpAny _ _ (callWith cpos (.builtin "dict.items") [.ref d] [] []) _ X.xe s1
  exact method_meetsIn PySem.F.slot_dict_items PySem.F.entry_dict_items rfl (PySem.evalArgs_none ⟨rfl, ⟨o, hgd, hx.1⟩, PySem.F.args_dict_items_1 _, _, meets_dict_items_raw d hs, ⟨⟨es, ep, hr⟩, fin⟩⟩)
/-- the items of the dict that is locked just now -/
def dItemsT (de : DE) : DA := fun S st => (de S st).then fun x st1 => match x with
  | .ref n => match lkAt st1 n with
    | some kvs => match toPs (kvs.map (·.2)) with
      | some ps => .ok ((kvs.zip ps).map fun z => .v (.tup [keyV z.1.1, z.2]) false) st1
      | none => .bad
    | none => .bad
  | _ => .bad
section
variable {X : Cx} {c : Ct} {W : WX} {d : Addr} {ob : Obj} {us : List (List Key × V)}
theorem walk_itemsA {kvs : List (List Key × AV)} {ps : List PV} (hl : kvs.map (·.1) = us.map (·.1)) (hp : ps.length = us.length) : WalkA c (Itit d ob us) ((kvs.zip ps).map fun z => .v (.tup [keyV z.1.1, z.2]) false) (fun F m N H => H d = some (.frz ob (.dT us)) ∧ F.c = c ∧ Vls F.c (Lw F m N) H ps (us.map (·.2))) := by
  have hk : kvs.length = us.length := by
    have := congrArg List.length hl
    simpa only [List.length_map] using this
  have hz : ((kvs.zip ps).map fun (z : (List Key × AV) × PV) => AV.v (.tup [keyV z.1.1, z.2]) false).length = us.length := by
    rw [List.length_map, List.length_zip]; omega
  refine ⟨fun F m N H m' N' H' s h => ⟨s.imm _ _ h.1 rfl, h.2.1, Vls.step s h.2.2⟩, fun F m N H a ha h => ⟨h.1, h.2.1, Vls.av h.2.2 ha⟩, fun F m N H D acc acc' hz hD h => ⟨?_, h.2.1, over_vls hz hD h.2.2⟩, fun F m st S σ H hc R h => ⟨h.1, by rw [hz]; exact Nat.le_refl _⟩, fun F m st S σ H i x hc R h e => ⟨h.1, ?_⟩, fun F m st S σ H i x v H' hc R h e y => ?_⟩
  · rw [upd_ne (fun z => by rw [← z, h.1] at hD; cases hD)]
    exact h.1
  · have h1 := (List.getElem?_eq_some_iff.mp e).1
    rw [hz] at h1
    exact h1
  · obtain ⟨T, k, u, q, h1, h2, rfl, hT, rfl⟩ := y
    refine ⟨same_upd hT, ?_⟩
    rw [List.getElem?_map] at e
    cases e2 : (kvs.zip ps)[i]? with
    | none => rw [e2] at e; cases e
    | some z =>
      rw [e2] at e
      cases e
      obtain ⟨e3, e4⟩ := List.getElem?_zip_eq_some.mp e2
      have hk2 : (kvs.map (·.1))[i]? = some k := by rw [hl, List.getElem?_map, h1]; rfl
      rw [List.getElem?_map, e3] at hk2
      have hk3 : z.1.1 = k := by simpa using hk2
      obtain ⟨v', e5, rv⟩ := Vls.get h.2.2 e4
      rw [List.getElem?_map, h1] at e5
      have e5 : u = v' := by simpa using e5
      subst e5
      show AVal F m st.length _ (.v (.tup [keyV z.1.1, z.2]) false) _
      rw [hk3]
      exact .v (.tup upd_same (Vls.step (Step.of (same_upd hT)) (.cons (.tup h2 (keys_vls k)) (.cons rv .nil)))) fun e => nomatch e
theorem pia_itemsT {e : Expr} {de : DE} {apos cpos : Pos} {elts : List Expr} {kk : Nat} {tpos : Pos} (he : PEA X c W e de) (hbase : attributeBase e "items" X.env (eval e X.env) = eval e X.env := by rfl) (hline : (apos.endLine == cpos.line) = true := by rfl) :
    PIA X c W (.Tuple elts kk tpos) (.Call (.Attribute e "items" apos) [] [] cpos) (dItemsT de) := (pi_itemsT he hbase hline).imp fun σ H R ⟨F, m, s, S, hc, R0, P⟩ =>
  ⟨F, m, s, S, hc, R0, (PostI.bind P).imp fun v H1 ⟨m1, s1, x, _, a1, R1, r1, P1⟩ => by
    cases x with
    | v p fr => exact P1.elim
    | ref n =>
      cases r1 with
      | ref hn =>
      simp only at P1
      cases q : lkAt s1 n with
      | none => rw [q] at P1; exact P1.elim
      | some kvs =>
        rw [q] at P1
        simp only at P1
        cases q2 : toPs (kvs.map (·.2)) with
        | none => rw [q2] at P1; exact P1.elim
        | some ps =>
          rw [q2] at P1
          have e0 : s1[n]? = some (.lk kvs) := by
            unfold lkAt at q
            split at q
            · cases q; assumption
            · cases q
          obtain ⟨u, h1, h2⟩ := R1.sto n _ e0
          cases h2 with
          | @lk _ us _ h2 =>
            have keys : kvs.map (·.1) = us.map (·.1) := by
              clear P1 h1 e0 q q2
              induction h2 with
              | nil => rfl
              | cons h t ih => simp only [List.map_cons, h.1, ih]
            have vals : AVls0 F m1 s1.length H1 (kvs.map (·.2)) (us.map (·.2)) := by
              clear P1 h1 e0 q q2 keys
              induction h2 with
              | nil => exact .nil
              | cons h t ih => exact .cons h.2 ih
            have vv := toPs_ok vals q2
            exact ⟨_, _, _, rfl, h1, PostI.here P1 R1 (walk_itemsA keys (by have := Vls.length vv; simpa using this)) ⟨h1, hc, vv⟩⟩⟩
end
end A

/-! The A-layer, part 26: list(d), list(d.values()) of a dict with tuple keys. -/
namespace A
open PySem PySem.Spec PyProof.Rows L2
/-- list(d) -/
def fListT (r : Bool) : List AV → Store → Res AV := fun xs st => match xs with
  | [.ref n] => match rdAt st n with
    | some kvs => newL r (kvs.map fun kv => .v (keyV kv.1) false) st
    | none => .bad
  | _ => .bad
section
variable {X : Cx} {c : Ct} {W : WX} {F : Fix} {m : Nat → Addr} {N : Nat} {H : Hp}
theorem keys_avls {us : List (List Key × V)} {bs : List Addr} (hk : IsKeys H us bs) : ∀ {kvs : List (List Key × AV)}, PT F m N H kvs us → AVls0 F m N H (kvs.map fun kv => .v (keyV kv.1) false) (bs.map V.ref) := by
  unfold IsKeys at hk
  induction hk with
  | nil => intro kvs h; cases h; exact .nil
  | @cons p b ps bs h t ih =>
    intro kvs h2
    cases h2 with
    | @cons a _ as _ h3 t3 =>
      refine .cons ?_ (ih t3)
      have e : a.1 = p.1 := h3.1
      show AVal0 F m N H (.v (keyV a.1) false) (V.ref b)
      rw [e]
      exact .v (.tup h (keys_vls p.1))
theorem cr_listT (r : Bool) : CRok c (fun xs H Q => ∃ d kvs, xs = [V.ref d] ∧ Rd H d (.dT kvs) ∧ ∀ p bs, H p = none → IsKeys H kvs bs → Q (.ref p) (upd H p (.lst (bs.map V.ref)))) (fListT r) := by
  intro W F m st S σ H xs vs Q hc R rx P
  unfold fListT at P
  split at P
  · cases rx with
    | cons a t =>
      cases t
      cases a with
      | ref hn =>
        rename_i n
        cases q : rdAt st n with
        | none => rw [q] at P; exact P.elim
        | some kvs =>
          rw [q] at P
          obtain ⟨_, us, hu, ru⟩ := rdAt_ok R q
          exact ⟨_, us, rfl, hu, fun p bs hp hk => newL_ok R hp (keys_avls hk ru) P⟩
  · exact P.elim
end
/-- list(d.values()) -/
def tLstVals (td : TE) : TE := fun σ H Q => td σ H fun v H1 => ∃ a kvs, v = .ref a ∧ Rd H1 a (.dT kvs) ∧ ∀ q, H1 q = none → Q (.ref q) (upd H1 q (.lst (kvs.map (·.2))))
theorem vals_nth : ∀ {vs : List V} {us : List Value}, vs.length = us.length → (∀ (j : Nat) (v : V) (u : Value), vs[j]? = some v → us[j]? = some u → RelV v u) → Vals vs us
  | [], [], _, _ => .nil
  | v :: vs, u :: us, hl, h => .cons (h 0 v u rfl rfl) (vals_nth (by simpa using hl) fun j v u e1 e2 => h (j + 1) v u e1 e2)
section
variable {X : Cx} {c : Ct} {W : WX} {e : Expr} {de : DE} {p pos apos cpos : Pos}
theorem pe_lstVals {td : TE} (hc : X.calm = true) (g1 : Gl X "list") (m1 : X.mg "list" = none) (he : PE X e td) (hbase : attributeBase e "values" X.env (eval e X.env) = eval e X.env := by rfl) (hline : (apos.endLine == cpos.line) = true := by rfl)
    (n2 : starEach [.Call (.Attribute e "values" apos) [] [] cpos] X.env = (false, eval (.Call (.Attribute e "values" apos) [] [] cpos) X.env) :: starEach [] X.env := by rfl) :
    PE X (.Call (.Name "list" p) [.Call (.Attribute e "values" apos) [] [] cpos] [] pos) (tLstVals td) := by
  constructor
  intro pins s σ H Q I h
  have inner : ∀ R : Value → Shared → Prop, (∀ (s1 : Shared) (H1 : Hp) (a : Addr) (kvs : List (List Key × V)), Inv X pins σ H1 s1 → Rd H1 a (.dT kvs) → (∀ q, H1 q = none → Q (.ref q) (upd H1 q (.lst (kvs.map (·.2))))) →
      R (.ref s1.heap.objs.size) { s1 with heap := s1.heap.push { cls := .type "dict_values", data := .fields #[.ref a] } }) → wpAny (model X.prog X.w) X.A (eval (.Call (.Attribute e "values" apos) [] [] cpos) X.env) R X.xe s := fun R hR => by
    refine wpAny_Call_method (T := "dict") (id := "dict.values") hbase rfl hline PySem.F.plainAttrs_dict PySem.F.slot_dict_values PySem.F.type_dict_values (thn (he.run pins s σ H _ I h) fun u s1 ⟨x, H1, I1, rx, d, kvs, ex, hd, q⟩ => ?_)
    subst ex
    obtain rfl : u = Value.ref d := rx
    obtain ⟨z, hs, ks, pr, o, es, ep, ho, hx, hdt, hes, hn⟩ := (show ObjOk X.prog X.w H1 s1.heap d (.dT kvs) from hd.ok I1.hok)
    refine ⟨⟨o, ho, hx.1⟩, fun b q => by cases q; exact ⟨o, ho, hx.2.1⟩, ?_⟩
    show wpAny _ _ (callWith cpos (.builtin "dict.values") [.ref d] [] []) _ X.xe s1
    exact method_meetsIn PySem.F.slot_dict_values PySem.F.entry_dict_values rfl (PySem.evalArgs_none ⟨rfl, ⟨o, ho, hx.1⟩, PySem.F.args_dict_values_1 _, _, meets_dict_values_raw d hs, ⟨⟨es, ep, ⟨o, ho, hx, hdt⟩⟩, hR s1 H1 d kvs I1 hd q⟩⟩)
  refine Call_ (ld_blt I g1 m1 boot_list (PyProof.Rows.callWith_type1 (args_cons (inner _ fun s1 H1 a kvs I1 hd q => args_nil ?_) n2) n2 rfl))
  have I2 : Inv X pins σ H1 { s1 with heap := s1.heap.push { cls := .type "dict_values", data := .fields #[.ref a] } } := I1.kept (t' := s1.toks) fun b o e => Heap.get?_push_of_some _ e
  obtain ⟨z, hs, ks, pr, o, es, ep, ho, hx, hdt, hes, hn⟩ := (show ObjOk X.prog X.w H1 s1.heap a (.dT kvs) from hd.ok I1.hok)
  have l1 : es.size = ks.length := size_of_entries hes
  have l2 : kvs.length = ks.length := Paired.length pr
  refine PySem.W.kdl_call (s := { s1 with heap := s1.heap.push { cls := .type "dict_values", data := .fields #[.ref a] } }) (PySem.KdlSrc.rawValues (r := s1.heap.objs.size) (d := a) (es := es) (ep := ep)) (I2.ok.hd hc) ⟨⟨_, Heap.get?_push_size _ rfl, rfl, rfl⟩, ⟨o, Heap.get?_push_of_some _ ho, hx, hdt⟩⟩ (by omega) fun h' tk acc' c' kp e it => ?_
  have hl : acc'.toList.length = ks.length := by rw [Array.length_toList, it.1]; exact l1
  have rv : Vals (kvs.map (·.2)) acc'.toList := vals_nth (by rw [List.length_map]; omega) fun j v u e1 e2 => by
    rw [List.getElem?_map] at e1
    cases q1 : kvs[j]? with
    | none => rw [q1] at e1; cases e1
    | some kv =>
      rw [q1] at e1
      cases e1
      obtain ⟨b, hb, _, _, r3⟩ := L2.paired_get pr q1
      obtain ⟨hj, hv⟩ := it.2 j u (by rw [← Array.getElem?_toList]; exact e2)
      have qe := entry_at hes j
      rw [hb, Array.getElem?_eq_getElem hj] at qe
      rw [hv, Option.some.inj qe]
      exact r3
  exact ⟨.ref _, _, I2.laid (t' := tk) (o := .lst (kvs.map (·.2))) kp (Nat.le_refl _) ⟨by rw [List.length_map]; exact z, acc'.toList, c', rv, by rw [Array.toArray_toList]; exact e⟩, rfl, q _ (I2.hok.fresh (Nat.le_refl _))⟩
def dLstVals (r : Bool) (de : DE) : DE := fun S st => (de S st).then fun x st1 => match x with
  | .ref n => match rdAt st1 n with
    | some kvs => newL r (kvs.map (·.2)) st1
    | none => .bad
  | _ => .bad
theorem pea_lstVals (r : Bool) (cn : Cn X c) (m1 : X.mg "list" = none) (he : PEA X c W e de) (g1 : Gl X "list" := by rfl) (hbase : attributeBase e "values" X.env (eval e X.env) = eval e X.env := by rfl) (hline : (apos.endLine == cpos.line) = true := by rfl)
    (n2 : starEach [.Call (.Attribute e "values" apos) [] [] cpos] X.env = (false, eval (.Call (.Attribute e "values" apos) [] [] cpos) X.env) :: starEach [] X.env := by rfl) :
    PEA X c W (.Call (.Name "list" p) [.Call (.Attribute e "values" apos) [] [] cpos] [] pos) (dLstVals r de) := (pe_lstVals cn.calm g1 m1 he hbase hline n2).imp fun σ H Q ⟨F, m, s, S, hc, R, P⟩ =>
  ⟨F, m, s, S, hc, R, (PostE.bind P).imp fun v H1 ⟨m1, s1, x, _, a1, R1, r1, P1⟩ => by
    cases r1 with
    | v _ _ => exact P1.elim
    | @ref n hn =>
      simp only at P1
      cases q : rdAt s1 n with
      | none => rw [q] at P1; exact P1.elim
      | some kvs =>
        rw [q] at P1
        obtain ⟨_, us, hu, ru⟩ := rdAt_ok R1 q
        have vals : AVls0 F m1 s1.length H1 (kvs.map (·.2)) (us.map (·.2)) := by
          clear P1 hu q
          induction ru with
          | nil => exact .nil
          | cons h t ih => exact .cons h.2 ih
        exact ⟨_, us, rfl, hu, fun q hq => newL_ok R1 hq vals P1⟩⟩
end
end A

/-! The A-layer, part 27: sorted(d, key=lambda a: a[0] * (n // a[1])) of a dict with tuple keys: the heap's side. -/
namespace A
open PySem PySem.Spec PyProof.Rows L2
section
variable {prog : Program} {w : World} {A : Around} {E : Value → Shared → Prop} {s : Shared} {T : String} {r d : Addr} {n : Nat} {P : Nat → Value → Prop} {OK : Heap → Prop}
/-- the items of what can be walked, as the machine gathers them -/
theorem collect_src {Q : List Value → Shared → Prop} (K : PySem.W.KdlSrc prog w T r d n P OK) (hh : A.handled = none) (hok : OK s.heap) (hn : n ≤ sizeLine)
    (h : ∀ h' tk acc, (∀ b o, s.heap.get? b = some o → h'.get? b = some o) → s.heap.objs.size < h'.objs.size → ItemsOf P acc n → Q acc.toList { s with heap := h', toks := tk }) :
    wpAny (model prog w) A (collect (.ref r)) Q E s := by
  have hlt := K.there _ hok
  unfold collect
  refine wpAny_bind (wpAny_runValue (codeAny_builtin entry_proto_collect' ?_))
  rw [Around.under_plainId PySem.F.plain_proto_collect _]
  show wpAny _ A.in1 (newList [] >>= fun l => again (.builtin "list.__iadd__" ⟨[l, .ref r], []⟩)) _ _ s
  refine wpAny_bind (wpAny_newObj_type ?_)
  refine wpAny_pure ⟨plainId_quiet PySem.F.plain_list_iadd _, codeAny_builtin entry_list_iadd' ?_⟩
  rw [Around.under_plainId PySem.F.plain_list_iadd _]
  have hS₁ : (s.heap.push { cls := .type "list", data := .seq ([] : List Value).toArray }).get? s.heap.objs.size = some { cls := .type "list", data := .seq #[] } := Heap.get?_push_size _ rfl
  show wpAny _ A.in1 (Builtin.List.listExtendWith (.ref s.heap.objs.size) (.ref r) (.ref s.heap.objs.size)) _ _ _
  have key := PySem.W.kdl_extend (A := A) (s := { s with heap := s.heap.push { cls := .type "list", data := .seq ([] : List Value).toArray } })
    (R := fun (q : Result) (s' : Shared) => ∃ (h' : Heap) (tk : Nat) (acc' : Array Value) (c' : Nat), q = .ok (.ret (.ref s.heap.objs.size)) ∧ s' = { s with heap := h', toks := tk } ∧
      (∀ b o, s.heap.get? b = some o → h'.get? b = some o) ∧ h'.get? s.heap.objs.size = some { cls := .type "list", dict := none, data := .seq acc' c', slots := #[] } ∧ ItemsOf P acc' n)
    K hh (K.keep _ _ hok fun b _ o e => Heap.get?_push_of_some _ e) s.heap.objs.size (Nat.ne_of_gt hlt.1) (Nat.ne_of_gt hlt.2) (.ref s.heap.objs.size) 0 hS₁
    (fun h' tk acc' c' hk hS' hacc => ⟨h', tk, acc', c', rfl, rfl, fun b o e => hk b o (Nat.ne_of_lt (Heap.lt_size e)) (Heap.get?_push_of_some _ e), hS', hacc⟩) hn
  refine wpAny_mono key (fun fin s' x => ?_) fun e s' x => ?_
  · cases fin with
    | done f =>
      obtain ⟨h', tk, acc', c', e, rfl, hk, hS', hacc⟩ := x
      cases e
      show wpAny _ A (load s.heap.objs.size >>= _) _ _ _
      exact wpAny_bind (wpAny_load hS' (wpAny_pure (h h' tk acc' hk (Heap.lt_size hS') hacc)))
    | again c' =>
      obtain ⟨q, x⟩ := x
      refine ⟨q, codeAny_mono x fun r s' y => ?_⟩
      obtain ⟨h', tk, acc', c', rfl, rfl, hk, hS', hacc⟩ := y
      show wpAny _ A (load s.heap.objs.size >>= _) _ _ _
      exact wpAny_bind (wpAny_load hS' (wpAny_pure (h h' tk acc' hk (Heap.lt_size hS') hacc)))
  · obtain ⟨h', tk, acc', c', z, _⟩ := x
    cases z
/-- sorted(d, key=f) where d is what can be walked and f's calls keep all that is there -/
theorem sorted_src_key {β : Type} {R : Value → β → Prop} {bs : List β} {f : Addr} {Q : Value → Shared → Prop} (k : β → PyData) (K : PySem.W.KdlSrc prog w T r d n P OK) (hh : A.handled = none) (hok : OK s.heap) (hn : n ≤ sizeLine) (hb : bs.length = n)
    (hit : ∀ acc : Array Value, PySem.ItemsOf P acc n → PySem.W.EachIs R acc.toList bs) (hal : PySem.W.AllAlike (bs.map k)) (hk : PySem.W.Sortable (bs.map k)) (hu : ∀ x, x ∈ bs → A.units + 2 + (k x).depth < cLine)
    (turn : ∀ (v : Value) (x : β), R v x → x ∈ bs → ∀ (h : Heap) (tk : Nat), (∀ b o, s.heap.get? b = some o → h.get? b = some o) →
      wpAny (model prog w) A.in1.in1 (call (.ref f) [v]) (PySem.W.KeyPure (k x) { s with heap := h, toks := tk }) (fun _ _ => False) { s with heap := h, toks := tk })
    (h : ∀ out a c h' tk, s.heap.objs.size ≤ a → (∀ b o, s.heap.get? b = some o → h'.get? b = some o) → h'.get? a = some (seqObj "list" (List.toArray out) c) → out.length = bs.length → PySem.W.EachIs R out (bs.mergeSort (PySem.W.dataLe false k)) → Q (.ref a) { s with heap := h', toks := tk }) :
    wpAny (model prog w) A (call (.builtin "sorted") [.ref r] [(Str.ofString "key", .ref f)]) Q E s := by
  refine call_function_entry_kw kind_sorted plain_sorted entry_sorted (ksk_s1 _ _) ?_
  unfold Builtin.«sorted»
  refine wpAny_bind (m := checkCount "sorted" 1 1 _) (wpAny_pure ?_)
  refine wpAny_bind (collect_src (A := A.in1) K hh hok hn fun h1 tk1 acc kp hlt hacc => ?_)
  have ei := hit acc hacc
  have la : acc.toList.length ≤ sizeLine := by rw [ei.length, hb]; exact hn
  refine wpAny_bind (wpAny_newList ?_ la)
  have up : ∀ {g : Heap}, PySem.W.KeepsBut h1.objs.size (h1.push (seqObj "list" acc.toList.toArray 0)) g → ∀ b o, s.heap.get? b = some o → g.get? b = some o := fun {g} kb b o q =>
    kb b o (Nat.ne_of_lt (Heap.lt_size (kp b o q))) (Heap.get?_push_of_some _ (kp b o q))
  have hsz : s.heap.objs.size ≤ h1.objs.size := Nat.le_of_lt hlt
  refine wpAny_bind (wpAny_holding (wpAny_call_entry_kw slot_list_sort ⟨_, Heap.get?_push_size _ rfl, rfl⟩ entry_list_sort ?body (ksk_l1 _ _)))
  case body =>
    show wpAny (model prog w) A.in1.in1 (Builtin.«list.sort» ⟨[.ref h1.objs.size], [(Str.ofString "key", .ref f)]⟩) _ _ _
    rw [ksk_t1]
    refine PySem.W.keyH_tree (kz := bs.map k) (s := { s with heap := h1.push (seqObj "list" acc.toList.toArray 0), toks := tk1 }) (Heap.get?_push_size _ rfl) (by rw [List.length_map]; exact ei.length.symm) la hal hk (PySem.W.bound_map (A := A.in1.in1) hu)
      (PySem.W.keyH_turns (s := { s with heap := h1.push (seqObj "list" acc.toList.toArray 0), toks := tk1 }) ei fun v x hR hx g tk kb => turn v x hR hx g tk (up kb)) fun h' tk out c kb hD ko => ⟨_, rfl, wpAny_pure ⟨_, rfl, ?_⟩⟩
    exact h out h1.objs.size c h' tk hsz (up kb) hD ((ko.length (by rw [List.length_map]; exact ei.length.symm)).trans ei.length) (PySem.W.keyedOut_each k ko ei)
/-! ### the lambda's call -/
/-- what is known of the lambda object at f: it was made by a def of the module -/
structure LamAt (h : Heap) (f : Addr) (q : Str) (params : Arguments) (body : Expr) (scope : Scope) (cl : List (Str × Addr)) : Prop where
  ob : ∃ (pm ctv : Value) (c' : Addr), h.get? f = some (PySem.W.kla_obj "<lambda>" q params body scope cl pm c' ctv) ∧ h.CodeRec (.ref c') q
theorem LamAt.keeps {h h' : Heap} {f : Addr} {q : Str} {params : Arguments} {body : Expr} {scope : Scope} {cl : List (Str × Addr)} (l : LamAt h f q params body scope cl) (k : ∀ b o, h.get? b = some o → h'.get? b = some o) : LamAt h' f q params body scope cl := by
  obtain ⟨pm, ctv, c', h1, oc, c2, vs, t, h3, h4, h5⟩ := l.ob
  exact ⟨pm, ctv, c', k _ _ h1, oc, c2, vs, t, h3, k _ _ h4, h5⟩
/-- a[0] * (sc // a[1]) -/
abbrev keyE (a sc : Str) (j0 j1 : Nat) (p1 p2 p3 p4 p5 p6 p7 p8 p9 : Pos) : Expr :=
  .BinOp (.Subscript (.Name a p1) (.Constant (.int 0) j0 p2) p3) .Mult (.BinOp (.Name sc p4) .FloorDiv (.Subscript (.Name a p5) (.Constant (.int 1) j1 p6) p7) p8) p9
theorem lam_key {f t cc : Addr} {q a sc : Str} {params : Arguments} {scope : Scope} {cl : List (Str × Addr)} {x y i : Int} {its : Array Value} {ti t0 t1 : Tok} {j0 j1 : Nat} {p1 p2 p3 p4 p5 p6 p7 p8 p9 : Pos} {outer : List Env}
    (l : LamAt s.heap f q params (keyE a sc j0 j1 p1 p2 p3 p4 p5 p6 p7 p8 p9) scope cl)
    (hk : scope.kind = .function) (hco : scope.isCoroutine = false) (hgen : scope.isGenerator = false) (hcell : ∀ z ∈ scope.names, z.2 ≠ .cell) (ha : scope.names.lookup a = some .local) (hsc : scope.names.lookup sc = some .free)
    (hb : ∀ v pm c' ctv, bindArgs (PySem.W.kla_fn "<lambda>" q params (keyE a sc j0 j1 p1 p2 p3 p4 p5 p6 p7 p8 p9) scope cl pm (.ref c') ctv) ⟨[v], []⟩ = pure [(a, v)])
    (hcc : cl.lookup sc = some cc) (hcv : s.heap.IsCell cc (some (.int i ti))) (ht : IsTup s.heap t its) (h0 : its[0]? = some (.int x t0)) (h1 : its[1]? = some (.int y t1)) (hsz : its.size = 2)
    (hy : y ≠ 0) (hm : mulC x (i.fdiv y) = true) (hdep : A.depth + 120 < recursionLimit) (hfr : A.frames = some outer) (hlim : s.heap.NoLimit) (hno : s.heap.NoSeer) (htree : prog.given.tree = none)
    (hda : (a == ("__debug__" : Str)) = false) (hds : (sc == ("__debug__" : Str)) = false) (hcd2 : (sc == ("__classdict__" : Str)) = false) :
    wpAny (model prog w) A (call (.ref f) [.ref t]) (PySem.W.KeyPure (.int (x * i.fdiv y)) s) (fun _ _ => False) s := by
  obtain ⟨pm, ctv, c', ho, hcd⟩ := l.ob
  refine wpAny_call ?_
  refine PySem.W.kla_callFunE (by omega) ho rfl hco hgen rfl hcd ?_
  rw [hb]
  refine wpAny_pure (wpAny_newFunctionEnv hcell (fun z hz => by rw [List.mem_singleton.mp hz]; exact ha) (fun h₁ hns hsb => ⟨hlim.fresh _ hsb, ?_⟩) hk)
  have kp : ∀ b o, s.heap.get? b = some o → h₁.get? b = some o := fun b o e => hsb.extBut b o (Nat.ne_of_lt (Heap.lt_size e)) (Heap.get?_push_of_some _ e)
  have hlim1 : h₁.NoLimit := hlim.fresh _ hsb
  have hno1 : h₁.NoSeer := hno.keeps kp
  have hcv1 : h₁.IsCell cc (some (.int i ti)) := by
    obtain ⟨o, ho, hd⟩ := hcv
    exact ⟨o, kp _ _ ho, hd⟩
  have ht1 : IsTup h₁ t its := by
    obtain ⟨o, e, c1, n, d1⟩ := ht
    exact ⟨o, kp _ _ e, c1, n, d1⟩
  have hva : ([(a, Value.ref t)] : List (Str × Value)).reverse.lookup a = some (.ref t) := by simp [List.lookup]
  show codeAny _ _ (.expr (keyE a sc j0 j1 p1 p2 p3 p4 p5 p6 p7 p8 p9) (PySem.W.envX q scope s.heap.objs.size f (.ref c') cl)) _ _
  have fr1 : (A.deeper (PySem.W.envX q scope s.heap.objs.size f (.ref c') cl)).frames = some (PySem.W.envX q scope s.heap.objs.size f (.ref c') cl :: outer) := Around.frames_deeper hfr
  have dp : (A.deeper (PySem.W.envX q scope s.heap.objs.size f (.ref c') cl)).depth + Builtin.pylongFrames < recursionLimit := by
    have e1 : Builtin.pylongFrames = 100 := rfl
    have e2 : (A.deeper (PySem.W.envX q scope s.heap.objs.size f (.ref c') cl)).depth = A.depth + 1 := rfl
    omega
  refine PySem.W.kla_codeExpr ?_
  refine wpAny_BinOp (Subscript_ (wpAny_Name (wpAny_loadName_local hk ha hns hva ?_) hda))
  refine wpAny_Constant_int ?_
  refine subscriptTail_builtinR (x := .int x t0) ht1.typeIs slot_tuple_getitem.lookup (getItem_tuple (j := 0) ht1 (by decide) (by decide) (by rw [hsz]; rfl) h0 ⟨rfl, ?_⟩) (by with_unfolding_all rfl)
  refine wpAny_BinOp (wpAny_Name (wpAny_loadName_free hk hsc hcc hcv1 ?_ hcd2) hds)
  refine Subscript_ (wpAny_Name (wpAny_loadName_local hk ha hns hva ?_) hda)
  refine wpAny_Constant_int ?_
  refine subscriptTail_builtinR (x := .int y t1) ht1.typeIs slot_tuple_getitem.lookup (getItem_tuple (j := 1) ht1 (by decide) (by decide) (by rw [hsz]; rfl) h1 ⟨rfl, ?_⟩) (by with_unfolding_all rfl)
  refine floordiv_int hy ?_ (.inr (PylongRoom.of hlim1 dp (SeerAt.of hno1 htree fr1 hgen hco rfl rfl)))
  refine mul_int ?_ (mulC_ok hm)
  exact ⟨h₁, _, rfl, kp, .int _ _⟩
end
end A

/-! The A-layer, part 28: sorted(d, key=lambda a: a[0] * (n // a[1])) of a dict with tuple keys: the rule. -/
namespace A
open PySem PySem.Spec PyProof.Rows L2 LamX
/-- a lambda is made: its code object is new, or found in the table -/
theorem lam_make3 {X : Cx} {pins : List (Addr × Obj)} {σ : L2.St} {H : Hp} {s : Shared} {T : List (Addr × Str)} {c P : Addr} {params : Arguments} {body : Expr} {scope : Scope} {pos : Pos} {E : Value → Shared → Prop} {Q : Value → Shared → Prop} (I : Inv X pins σ H s) (TB : TabB X.base X.mg c P) (hcode : X.env.code = .ref c)
    (hm : (P, X.env.qual ++ "<lambda>") ∈ T) (hu : ∀ p ∈ T, p.1 = P → p.2 = X.env.qual ++ "<lambda>") (hT : Tabs T H) (hdef : defaultsOf params X.env = ([], [])) (hfree : ∀ y ∈ scope.names, y.2 = .free → ∃ c, X.env.cells.lookup y.1 = some c)
    (h : ∀ (f : Addr) (H1 : Hp) (s' : Shared), Inv X pins σ H1 s' → ExtN H H1 → (∀ b, H b ≠ none → H1 b ≠ none) → Tabs T H1 → LamAt s'.heap f (X.env.qual ++ "<lambda>") params body scope (cloFrom X.env.cells scope.names []) → Q (.ref f) s') :
    wpAny (model X.prog X.w) X.A (eval (.Lambda params body scope pos) X.env) Q E s := by
  obtain ⟨ps, hP, ht, ha⟩ := hT _ hm
  refine PySem.W.kla_eval hdef ?_
  have bP : s.heap.BuiltinsAt X.mg P := TB.bm.keeps I.bk
  have hP' : s.heap.get? P = some { cls := .none, data := .fields ps } := I.hok P _ hP
  cases hc : codeAmong pos ps.toList with
  | none =>
    refine PySem.W.kla_makeFunction (mg := X.mg) (c := c) (P := P) (ps := ps) (closure_ok hfree) I.ok.glob (I.mod.glob.keeps I.bk) hcode (TB.code.keeps I.bk) hP' ht hc TB.gP bP fun c' ctv h' tk hx hge hlt hrec htb => ?_
    obtain ⟨c2, oc, vs, t, e2, hoc, hd, hv⟩ := hrec
    cases e2
    have nC : H c' = none := I.hok.fresh hge
    have I1 := inv_table (t' := tk) (more := #[rawInt pos.line, rawInt pos.col, .ref c']) (h' := h'.push (PySem.W.kla_obj "<lambda>" (X.env.qual ++ "<lambda>") params body scope (cloFrom X.env.cells scope.names []) ((X.mg "__name__").getD .none) c' ctv)) I hP
      (fun b o hb e => Heap.get?_push_of_some _ (hx b o hb e)) (Heap.get?_push_of_some _ htb) hge ⟨oc, vs, t, Heap.get?_push_of_some _ hoc, hd, hv⟩
    have hE : ExtN H (upd (upd H P (.tbl (ps ++ #[rawInt pos.line, rawInt pos.col, .ref c']))) c' (CodeO c' (X.env.qual ++ "<lambda>"))) := fun b o e n => by
      rw [upd_ne (ne_of_none e nC), upd_ne (fun z => n ps (Option.some.inj (e.symm.trans (by rw [z]; exact hP))))]
      exact e
    have eL : (ps ++ #[rawInt pos.line, rawInt pos.col, .ref c']).toList = ps.toList ++ [rawInt pos.line, rawInt pos.col, .ref c'] := by simp
    refine h h'.objs.size _ _ I1 hE (fun b hb => ?_) (fun p hp => ?_) ⟨(X.mg "__name__").getD .none, ctv, c', Heap.get?_push_size _ rfl, c', oc, vs, t, rfl, Heap.get?_push_of_some _ hoc, hd, hv⟩
    · by_cases z : b = c'
      · rw [z, upd_same]; simp
      · rw [upd_ne z]
        by_cases z2 : b = P
        · rw [z2, upd_same]; simp
        · rw [upd_ne z2]; exact hb
    · by_cases hb : p.1 = P
      · rw [hu p hp hb, hb]
        refine ⟨_, by rw [upd_ne (ne_of_none hP nC), upd_same], by rw [eL]; exact PySem.TriplesOk_snoc _ _ _ _ ht, fun p' cv hcv => ?_⟩
        rw [eL] at hcv
        rcases among_app _ ht hcv with z | z
        · obtain ⟨c0, e1, e2⟩ := ha p' cv z
          exact ⟨c0, e1, hE _ _ e2 codeO_ne⟩
        · exact ⟨c', z, upd_same⟩
      · obtain ⟨ps', a1, a2, a3⟩ := hT p hp
        refine ⟨ps', by rw [upd_ne (ne_of_none a1 nC), upd_ne hb]; exact a1, a2, fun p' cv hcv => ?_⟩
        obtain ⟨c0, e1, e2⟩ := a3 p' cv hcv
        exact ⟨c0, e1, hE _ _ e2 codeO_ne⟩
  | some cv =>
    obtain ⟨c', e, hco⟩ := ha pos cv hc
    subst e
    obtain ⟨⟨oc, vs, t, hoc, hd, hv⟩, _, _⟩ := I.hok c' _ hco
    refine PySem.W.kla_makeFunctionHit (mg := X.mg) (c := c) (P := P) (ps := ps) (closure_ok hfree) I.ok.glob (I.mod.glob.keeps I.bk) hcode (TB.code.keeps I.bk) hP' ht hc bP fun ctv h' tk hx hsz => ?_
    have I1 : Inv X pins σ H { s with heap := h'.push (PySem.W.kla_obj "<lambda>" (X.env.qual ++ "<lambda>") params body scope (cloFrom X.env.cells scope.names []) ((X.mg "__name__").getD .none) c' ctv), toks := tk } := I.kept fun b o e => Heap.get?_push_of_some _ (hx b o e)
    exact h h'.objs.size H _ I1 (ExtN.refl H) (fun _ h => h) hT ⟨(X.mg "__name__").getD .none, ctv, c', Heap.get?_push_size _ rfl, c', oc, vs, t, rfl, Heap.get?_push_of_some _ (hx _ _ hoc), hd, hv⟩
def keyL (i : Int) (p : Int × Int) : Int := p.1 * i.fdiv p.2
def leL (i : Int) : Int × Int → Int × Int → Bool := fun p q => decide (keyL i p ≤ keyL i q)
def sortK (T : List (Addr × Str)) (j : Nat) (σ : St) (Q : VK) (v : V) (H1 : Hp) : Prop := ∃ (d : Addr) (us : List (List Key × V)) (ps : List (Int × Int)) (i : Int), v = .ref d ∧ Rd H1 d (.dT us) ∧ us.map (·.1) = ps.map (fun p => [.inl p.1, .inl p.2]) ∧ σ[j]? = some (some (.int i)) ∧
  (∀ p ∈ ps, p.2 ≠ 0 ∧ mulC p.1 (i.fdiv p.2) = true) ∧ Tabs T H1 ∧ ∀ (H2 : Hp) (q : Addr) (bs : List Addr), ExtN H1 H2 → (∀ b, H1 b ≠ none → H2 b ≠ none) → Tabs T H2 → H2 q = none → Paired (fun (b : Addr) (p : Int × Int) => H2 b = some (.tup [.int p.1, .int p.2])) bs (ps.mergeSort (leL i)) → Q (.ref q) (upd H2 q (.lst (bs.map V.ref)))
def tSortL (T : List (Addr × Str)) (j : Nat) (td : TE) : TE := fun σ H Q => td σ H (sortK T j σ Q)
/-- the lambda's names: a its parameter, sc a name of the def -/
structure LamN (sc0 scope : Scope) (params : Arguments) (a sc : Str) : Prop where
  kind : scope.kind = .function
  co : scope.isCoroutine = false
  gen : scope.isGenerator = false
  cell : ∀ y ∈ scope.names, y.2 ≠ .cell
  par : scope.names.lookup a = some .local
  free : scope.names.lookup sc = some .free
  up : sc0.names.lookup sc = some .cell
  ups : ∀ y ∈ scope.names, y.2 = .free → sc0.names.lookup y.1 = some .cell ∨ sc0.names.lookup y.1 = some .free
  da : (a == ("__debug__" : Str)) = false
  ds : (sc == ("__debug__" : Str)) = false
  dc : (sc == ("__classdict__" : Str)) = false
def lamNB (sc0 scope : Scope) (a sc : Str) : Bool :=
  decide (scope.kind = .function) && (!scope.isCoroutine && (!scope.isGenerator && (scope.names.all (fun y => !decide (y.2 = .cell)) && (decide (scope.names.lookup a = some .local) && (decide (scope.names.lookup sc = some .free) && (decide (sc0.names.lookup sc = some .cell) &&
  (scope.names.all (fun y => !decide (y.2 = .free) || (decide (sc0.names.lookup y.1 = some .cell) || decide (sc0.names.lookup y.1 = some .free))) && (!(a == ("__debug__" : Str)) && (!(sc == ("__debug__" : Str)) && !(sc == ("__classdict__" : Str)))))))))))
theorem lamN_by {sc0 scope : Scope} {params : Arguments} {a sc : Str} (h : lamNB sc0 scope a sc = true) : LamN sc0 scope params a sc := by
  unfold lamNB at h
  simp only [Bool.and_eq_true, Bool.or_eq_true, Bool.not_eq_true', decide_eq_true_eq, decide_eq_false_iff_not, List.all_eq_true] at h
  obtain ⟨h1, h2, h3, h4, h5, h6, h7, h8, h9, h10, h11⟩ := h
  exact ⟨h1, h2, h3, h4, h5, h6, h7, fun y hy e => (h8 y hy).elim (fun z => absurd e z) id, h9, h10, h11⟩
theorem paired_proj {α β γ : Type} {P : β → γ → Prop} (f : α → β) (g : α → γ) : ∀ l : List α, (∀ x ∈ l, P (f x) (g x)) → Paired P (l.map f) (l.map g)
  | [], _ => .nil
  | x :: l, h => .cons (h x List.mem_cons_self) (paired_proj f g l fun y hy => h y (List.mem_cons_of_mem _ hy))
theorem eachIs_refs : ∀ l : List ((Int × Int) × Addr), PySem.W.EachIs (fun (v : Value) (x : (Int × Int) × Addr) => v = .ref x.2) (l.map fun x => Value.ref x.2) l
  | [] => .nil
  | x :: l => .cons rfl (eachIs_refs l)
theorem eachIs_eq : ∀ {vs : List Value} {l : List ((Int × Int) × Addr)}, PySem.W.EachIs (fun (v : Value) (x : (Int × Int) × Addr) => v = .ref x.2) vs l → vs = l.map fun x => Value.ref x.2
  | _, _, .nil => rfl
  | _, _, .cons h t => by rw [List.map_cons, h, eachIs_eq t]
section
variable {X : Cx} {c : Ct} {W : WX} {e : Expr} {de : DE} {a sc : Str} {cP P : Addr} {j j0 j1 : Nat} {params : Arguments} {scope : Scope} {p pos lpos kpos p1 p2 p3 p4 p5 p6 p7 p8 p9 : Pos}
theorem pe_sortL {td : TE} {T : List (Addr × Str)} (cn : Cn X c) (TB : TabB X.base X.mg cP P) (hcode : X.env.code = .ref cP) (hmT : (P, X.env.qual ++ "<lambda>") ∈ T) (hu : ∀ p ∈ T, p.1 = P → p.2 = X.env.qual ++ "<lambda>")
    (L : LamN X.env.scope scope params a sc) (hj : X.N[j]? = some sc) (hdef : defaultsOf params X.env = ([], []))
    (hb : ∀ q cl v pm c' ctv, bindArgs (PySem.W.kla_fn "<lambda>" q params (keyE a sc j0 j1 p1 p2 p3 p4 p5 p6 p7 p8 p9) scope cl pm (.ref c') ctv) ⟨[v], []⟩ = pure [(a, v)])
    (g1 : Gl X "sorted") (m1 : X.mg "sorted" = none) (he : PE X e td)
    (n2 : starEach [e] X.env = (false, eval e X.env) :: starEach [] X.env := by rfl) (n3 : backTo pos (starEach [e] X.env) = (false, eval e X.env) :: backTo pos (starEach [] X.env) := by rfl) (n4 : (backTo pos (starEach [e] X.env)).any (·.1) = false := by rfl) :
    PE X (.Call (.Name "sorted" p) [e] [⟨some "key", .Lambda params (keyE a sc j0 j1 p1 p2 p3 p4 p5 p6 p7 p8 p9) scope lpos, kpos⟩] pos) (tSortL T j td) := by
  refine ⟨fun pins s σ H Q I h => ?_⟩
  refine wpAny_Call_Name_kw (ld_blt I g1 m1 boot_sorted ?_)
  refine PyProof.Rows.callWith_kw (thn ((pa_cons he pa_nil n2).run pos pins s σ H (fun vs H1 => match vs with
    | [v] => sortK T j σ Q v H1
    | _ => False) I h) fun uvs s1 ⟨vs, H1, I1, r1, q1⟩ => ?_) n3 n4
  match vs, r1, q1 with
  | [v], r1, q1 =>
  obtain ⟨d, us, ps, i, rfl, hd, hkeys, hi, hps, hT, q⟩ := q1
  obtain ⟨u, rfl, rx⟩ := r1.one
  obtain rfl : u = Value.ref d := rx
  show wpAny _ _ (evalAll [do let v ← eval (.Lambda params (keyE a sc j0 j1 p1 p2 p3 p4 p5 p6 p7 p8 p9) scope lpos) X.env; standAt pos; pure v]) _ _ s1
  refine wpAny_evalAll_cons (wpAny_bind (lam_make3 I1 TB hcode hmT hu hT hdef (fun y hy e => by
    rcases L.ups y hy e with z | z
    · exact I1.ok.has _ (.inl z)
    · exact I1.ok.has _ (.inr z)) fun f H2 s2 I2 eN dm T2 la => wpAny_bind (wpAny_standAt (wpAny_pure (wpAny_evalAll_nil ?_)))))
  show wpAny (model X.prog X.w) X.A (call (.builtin "sorted") [.ref d] [(Str.ofString "key", .ref f)]) _ _ _
  have hd2 : Rd H2 d (.dT us) := by
    rcases hd with z | ⟨o, z⟩
    · exact .inl (eN _ _ z fun ps w => by cases w)
    · exact .inr ⟨o, eN _ _ z fun ps w => by cases w⟩
  obtain ⟨z, hs, ks, pr, o, es, ep, ho, hx, hdt, hes, hn⟩ := (show ObjOk X.prog X.w H2 s2.heap d (.dT us) from hd2.ok I2.hok)
  have l1 : es.size = ks.length := size_of_entries hes
  have l2 : us.length = ks.length := Paired.length pr
  have l3 : us.length = ps.length := by
    have := congrArg List.length hkeys
    simpa using this
  -- the value of sc
  obtain ⟨m, hns, hl⟩ := I2.loc
  obtain ⟨w, rw1, lk⟩ := hl j sc (.int i) hj hi (.inr (.inl L.up))
  obtain ⟨ti, rfl⟩ := rw1
  obtain ⟨cc, hcc, hcv⟩ : ∃ cc, X.env.cells.lookup sc = some cc ∧ s2.heap.IsCell cc (some (.int i ti)) := by
    rcases lk with ⟨hk, _⟩ | ⟨_, cc, h1, h2⟩
    · rw [show X.env.kindOf sc = some .cell from L.up] at hk; cases hk
    · exact ⟨cc, h1, h2⟩
  have hcl : (cloFrom X.env.cells scope.names []).lookup sc = some cc := by
    obtain ⟨c2, h2⟩ := mem_lookup (cloFrom_has (cells := X.env.cells) (acc := []) (PySem.mem_of_lookup L.free))
    rcases cloFrom_mem (PySem.mem_of_lookup h2) with hm | ⟨_, h3⟩
    · cases hm
    · rw [h2, h3, hcc]; rfl
  generalize hbs : ps.zip (ks.map fun x => x.2.1) = bs
  have lb : bs.length = es.size := by rw [← hbs, List.length_zip, List.length_map]; omega
  have b1 : bs.map (·.1) = ps := by rw [← hbs]; exact List.map_fst_zip (by rw [List.length_map]; omega)
  have b2 : bs.map (·.2) = ks.map fun x => x.2.1 := by rw [← hbs]; exact List.map_snd_zip (by rw [List.length_map]; omega)
  have mem : ∀ x ∈ bs, x.1 ∈ ps ∧ H2 x.2 = some (.tup [.int x.1.1, .int x.1.2]) := fun x hx => by
    refine ⟨by rw [← b1]; exact List.mem_map.mpr ⟨x, hx, rfl⟩, ?_⟩
    obtain ⟨n, hn, rfl⟩ := List.mem_iff_getElem.mp hx
    have e1 : ps[n]? = some bs[n].1 := by rw [← b1, List.getElem?_map, List.getElem?_eq_getElem hn]; rfl
    have e2 : (ks.map fun x => x.2.1)[n]? = some bs[n].2 := by rw [← b2, List.getElem?_map, List.getElem?_eq_getElem hn]; rfl
    rw [List.getElem?_map] at e2
    cases qk : ks[n]? with
    | none => rw [qk] at e2; cases e2
    | some kx =>
      rw [qk] at e2
      have e2 : kx.2.1 = bs[n].2 := Option.some.inj e2
      cases qu : us[n]? with
      | none =>
        have := List.getElem?_eq_none_iff.mp qu
        have := (List.getElem?_eq_some_iff.mp qk).1
        omega
      | some u =>
        obtain ⟨kx', hk', hp1, hp2, _⟩ := L2.paired_get pr qu
        rw [qk] at hk'
        cases hk'
        have e3 : u.1 = [.inl bs[n].1.1, .inl bs[n].1.2] := by
          have e4 : (us.map (·.1))[n]? = some u.1 := by rw [List.getElem?_map, qu]; rfl
          rw [hkeys, List.getElem?_map, e1] at e4
          exact (Option.some.inj e4).symm
        rw [← e2, hp2, e3]
        rfl
  refine sorted_src_key (β := (Int × Int) × Addr) (R := fun (v : Value) (x : (Int × Int) × Addr) => v = .ref x.2) (bs := bs) (fun x => .int (keyL i x.1)) (kdl_raw hs hx hdt) (I2.ok.hd cn.calm) ho (by omega) lb (fun acc it => ?_) (PySem.W.AllAlike.of fun b b' => by simp [PySem.W.alike]) (PySem.W.Sortable.others fun b => ⟨(fun z => by cases z), (fun xs z => by cases z)⟩) (fun x _ => by
    have := cn.room.un
    show X.A.units + 2 + 0 < cLine
    omega) (fun v x hv hx2 g tk kg => ?_) fun out q2 cq h' tk hq kp hq2 hlen hout => ?_
  · have ea : acc.toList = bs.map fun x => Value.ref x.2 := by
      rw [show (bs.map fun x => Value.ref x.2) = (bs.map (·.2)).map Value.ref by rw [List.map_map]; rfl, b2]
      have hl : acc.toList.length = ks.length := by rw [Array.length_toList, it.1]; exact l1
      apply List.ext_getElem?
      intro n
      rw [List.getElem?_map, List.getElem?_map]
      cases hn : acc.toList[n]? with
      | none =>
        have h1 := List.getElem?_eq_none_iff.mp hn
        rw [List.getElem?_eq_none (by omega)]
        rfl
      | some v =>
        obtain ⟨en, hen, hv⟩ := it.2 n v (by rw [← Array.getElem?_toList]; exact hn)
        have qe := entry_at hes n
        rw [hen] at qe
        cases hb : ks[n]? with
        | none => rw [hb] at qe; exact nomatch (show some en = none from qe)
        | some b =>
          rw [hb] at qe
          have e2 : en = entryOfKey (tupleKind (mixKind X.prog X.w)) b := Option.some.inj qe
          rw [hv, e2]
          rfl
    rw [ea]
    exact eachIs_refs bs
  · subst hv
    obtain ⟨x1, x2⟩ := mem x hx2
    obtain ⟨y0, ym⟩ := hps _ x1
    obtain ⟨hz, its, rv, o2, e2, c2, n2', d2⟩ := I2.hok _ _ x2
    obtain ⟨u0, u1, rfl, ⟨t0, rfl⟩, ⟨t1, rfl⟩⟩ := vals2 rv
    obtain ⟨en, l, hst, z1, z2, z3, z4⟩ := cn.stk
    exact lam_key (s := { s2 with heap := g, toks := tk }) (outer := en :: l) (la.keeps kg) L.kind L.co L.gen L.cell L.par L.free (fun v pm c' ctv => hb _ _ v pm c' ctv) hcl (by
      obtain ⟨o, ho, hd⟩ := hcv
      exact ⟨o, kg _ _ ho, hd⟩) ⟨o2, kg _ _ e2, c2, n2', d2⟩ rfl rfl rfl y0 ym (by have := cn.room.dp; show X.A.depth + 120 < _; omega) (by show X.A.frames = _; rw [I2.ok.frames, hst]) (I2.nolimit.keeps kg) ((cn.no.keeps I2.bk).keeps kg) cn.tree L.da L.ds L.dc
  · rw [PySem.W.dataLe_int] at hout
    have eo := eachIs_eq hout
    have sortm : (bs.mergeSort fun x y => decide (keyL i x.1 ≤ keyL i y.1)).map (·.1) = ps.mergeSort (leL i) := by
      exact (List.map_mergeSort (r := fun (x y : (Int × Int) × Addr) => decide (keyL i x.1 ≤ keyL i y.1)) (s := leL i) (f := fun (x : (Int × Int) × Addr) => x.1) (l := bs) (fun x _ y _ => rfl)).trans (by rw [b1])
    have memS : ∀ x ∈ bs.mergeSort fun x y => decide (keyL i x.1 ≤ keyL i y.1), H2 x.2 = some (.tup [.int x.1.1, .int x.1.2]) := fun x hx => (mem x (List.mem_mergeSort.mp hx)).2
    have pp := paired_proj (P := fun (b : Addr) (p : Int × Int) => H2 b = some (.tup [.int p.1, .int p.2])) (fun (x : (Int × Int) × Addr) => x.2) (fun (x : (Int × Int) × Addr) => x.1) _ memS
    rw [sortm] at pp
    generalize (bs.mergeSort fun x y => decide (keyL i x.1 ≤ keyL i y.1)) = ss at *
    have lz : ss.length ≤ sizeLine := by
      have := hout.length
      omega
    have ev : out = (ss.map (·.2)).map Value.ref := by rw [eo, List.map_map]; rfl
    refine ⟨.ref _, _, I2.laid (t' := tk) (o := .lst ((ss.map (·.2)).map V.ref)) kp hq ⟨by rw [List.length_map, List.length_map]; exact lz, out, cq, by rw [ev]; exact vals_refs _, hq2⟩, rfl, q H2 _ _ eN dm T2 (I2.hok.fresh hq) pp⟩
end
/-- pairs of ints as keys -/
def pairK (k : List Key) : Option (Int × Int) := match k with
  | [.inl a, .inl b] => some (a, b)
  | _ => none
theorem pairK_eq {k : List Key} {p : Int × Int} (h : pairK k = some p) : k = [.inl p.1, .inl p.2] := by
  unfold pairK at h
  split at h
  · cases h; rfl
  · cases h
def pairsK : List (List Key) → Option (List (Int × Int))
  | [] => some []
  | k :: r => match pairK k, pairsK r with
    | some p, some ps => some (p :: ps)
    | _, _ => none
theorem pairsK_eq : ∀ {l : List (List Key)} {ps : List (Int × Int)}, pairsK l = some ps → l = ps.map fun p => [.inl p.1, .inl p.2]
  | [], ps, h => by cases h; rfl
  | k :: r, ps, h => by
    unfold pairsK at h
    cases q1 : pairK k with
    | none => rw [q1] at h; cases h
    | some p =>
      cases q2 : pairsK r with
      | none => rw [q1, q2] at h; cases h
      | some qs =>
        rw [q1, q2] at h
        cases h
        rw [pairK_eq q1, pairsK_eq q2]
        rfl
def fSortL (r : Bool) (kvs : List (List Key × AV)) (i : Int) (st : Store) : Res AV := match pairsK (kvs.map (·.1)) with
  | some ps => bif ps.all (fun p => decide (p.2 ≠ 0) && mulC p.1 (i.fdiv p.2)) then newL r ((ps.mergeSort (leL i)).map fun p => .v (.tup [.int p.1, .int p.2]) false) st else .bad
  | none => .bad
def dSortL (r : Bool) (j : Nat) (de : DE) : DE := fun S st => (de S st).then fun x st1 => match x with
  | .ref n => match rdAt st1 n, (S[j]?).join.bind fInts with
    | some kvs, some i => fSortL r kvs i st1
    | _, _ => .bad
  | _ => .bad
theorem fInts_eq {x : AV} {i : Int} (h : fInts x = some i) : ∃ fr, x = .v (.int i) fr := by
  unfold fInts at h
  split at h
  · cases h; exact ⟨_, rfl⟩
  · cases h
theorem PT.keys {F : Fix} {m : Nat → Addr} {N : Nat} {H : Hp} : ∀ {kvs : List (List Key × AV)} {us : List (List Key × V)}, PT F m N H kvs us → us.map (·.1) = kvs.map (·.1)
  | _, _, .nil => rfl
  | _, _, .cons h t => by rw [List.map_cons, List.map_cons, h.1, PT.keys t]
section
variable {X : Cx} {c : Ct} {W : WX} {e : Expr} {de : DE} {a sc : Str} {cP P : Addr} {j j0 j1 : Nat} {params : Arguments} {scope : Scope} {p pos lpos kpos p1 p2 p3 p4 p5 p6 p7 p8 p9 : Pos}
theorem tups_avls {F : Fix} {m : Nat → Addr} {N : Nat} {H : Hp} : ∀ {bs : List Addr} {ps : List (Int × Int)}, Paired (fun (b : Addr) (p : Int × Int) => H b = some (.tup [.int p.1, .int p.2])) bs ps → AVls0 F m N H (ps.map fun p => .v (.tup [.int p.1, .int p.2]) false) (bs.map V.ref)
  | _, _, .nil => .nil
  | _, _, .cons h t => .cons (.v (.tup h (.cons (.int _) (.cons (.int _) .nil)))) (tups_avls t)
theorem pea_sortL (r : Bool) (cn : Cn X c) (TB : TabB X.base X.mg cP P) (hcode : X.env.code = .ref cP) (hmT : (P, X.env.qual ++ "<lambda>") ∈ c.T) (hu : ∀ p ∈ c.T, p.1 = P → p.2 = X.env.qual ++ "<lambda>") (m1 : X.mg "sorted" = none) (he : PEA X c W e de)
    (L : LamN X.env.scope scope params a sc) (hj : X.N[j]? = some sc := by rfl) (hdef : defaultsOf params X.env = ([], []) := by rfl)
    (hb : ∀ q cl v pm c' ctv, bindArgs (PySem.W.kla_fn "<lambda>" q params (keyE a sc j0 j1 p1 p2 p3 p4 p5 p6 p7 p8 p9) scope cl pm (.ref c') ctv) ⟨[v], []⟩ = pure [(a, v)] := by intros; rfl)
    (g1 : Gl X "sorted" := by rfl)
    (n2 : starEach [e] X.env = (false, eval e X.env) :: starEach [] X.env := by rfl) (n3 : backTo pos (starEach [e] X.env) = (false, eval e X.env) :: backTo pos (starEach [] X.env) := by rfl) (n4 : (backTo pos (starEach [e] X.env)).any (·.1) = false := by rfl) :
    PEA X c W (.Call (.Name "sorted" p) [e] [⟨some "key", .Lambda params (keyE a sc j0 j1 p1 p2 p3 p4 p5 p6 p7 p8 p9) scope lpos, kpos⟩] pos) (dSortL r j de) :=
  (pe_sortL (T := c.T) cn TB hcode hmT hu L hj hdef hb g1 m1 he n2 n3 n4).imp fun σ H Q ⟨F, m, s, S, hc, R, P⟩ =>
  ⟨F, m, s, S, hc, R, (PostE.bind P).imp fun v H1 ⟨m1, s1, x, _, a1, R1, r1, P1⟩ => by
    cases r1 with
    | v _ _ => exact P1.elim
    | @ref n hn =>
      simp only at P1
      cases q : rdAt s1 n with
      | none => rw [q] at P1; exact P1.elim
      | some kvs =>
        cases qi : (S[j]?).join.bind fInts with
        | none => rw [q, qi] at P1; exact P1.elim
        | some i =>
          rw [q, qi] at P1
          simp only [fSortL] at P1
          cases qp : pairsK (kvs.map (·.1)) with
          | none => rw [qp] at P1; exact P1.elim
          | some ps =>
            rw [qp] at P1
            simp only at P1
            cases qa : ps.all (fun p => decide (p.2 ≠ 0) && mulC p.1 (i.fdiv p.2)) with
            | false => rw [qa] at P1; exact P1.elim
            | true =>
              rw [qa] at P1
              simp only [cond_true] at P1
              obtain ⟨_, us, hu, ru⟩ := rdAt_ok R1 q
              have hsl : ∃ fr, S[j]? = some (some (.v (.int i) fr)) := by
                cases e1 : S[j]? with
                | none => rw [e1] at qi; cases qi
                | some o =>
                  rw [e1] at qi
                  cases o with
                  | none => cases qi
                  | some x =>
                    obtain ⟨fr, e2⟩ := fInts_eq (show fInts x = some i from qi)
                    exact ⟨fr, by rw [e2]⟩
              obtain ⟨fr, hsl⟩ := hsl
              obtain ⟨w, h1, h2⟩ := R1.slo j _ hsl
              have hw : w = .int i := by
                cases h2 with
                | v h _ => exact Val.int_inv h
              subst hw
              refine ⟨_, us, ps, i, rfl, hu, by rw [PT.keys ru]; exact pairsK_eq qp, h1, fun p hp => ?_, by rw [← hc]; exact R1.tab, fun H2 q2 bs eN dm T2 hq pp => ?_⟩
              · have := List.all_eq_true.mp qa p hp
                simp only [Bool.and_eq_true, decide_eq_true_eq] at this
                exact this
              · have ext : Ext F.c H1 H2 := ⟨(fun b o e nt => eN b o e fun ps z => by rw [z] at nt; cases nt), dm, (by rw [hc]; exact T2)⟩
                exact newL_ok (R1.ext ext) hq (tups_avls pp) (PostE.shift (Step.ext ext) P1)⟩
end
end A

/-! The A-layer, part 29: a def that has a lambda: its code object is known. -/
namespace A
open PySem PySem.Spec PyProof.Rows L2
/-- a pure def with a lambda -/
theorem fnAtPL {g : Gd} {x qual : Str} {st : Stmt} {p : He.Defn} {fd : FuncData} {names ps : List Str} {N n k : Nat} {d : DS} (FF : FunD g.c.K x qual (defArgs st) (defBody st) (defScope st) [] [] (He.fAd g.c.K p) fd) (sc : FnScope names ps (defScope st)) (hN : names.length = N) (hn : ps.length = n)
    (hb : ∀ (kV doc pm : Value) (an : Option Addr) (cdv ct : Value) (us : List Value), us.length = ps.length → bindArgs (PySem.W.fnOf x qual (defArgs st) (defBody st) (defScope st) .none kV doc pm an cdv ct) ⟨us, []⟩ = pure (ps.zip us))
    (body : ∀ e : Entry, e.cdv = .ref (He.cT g.c.K p).1 → Cg (XOf g names qual st (He.fAd g.c.K p) e) g → Takes (XOf g names qual st (He.fAd g.c.K p) e) (WOf e) → Room k (XOf g names qual st (He.fAd g.c.K p) e).A → PSsA (XOf g names qual st (He.fAd g.c.K p) e) g.c (WOf e) (defBody st) d) : FnAt g (k + 1) (He.fAd g.c.K p) n [] (spP g.c n (runP N d)) := by
  refine ⟨FF.kp, fd, ps, FF.bindsN hb, hn, ?_⟩
  obtain ⟨oc, od, dV, kV, doc, pm, an, cdv, ct, osl, e0, lk, hcd, _, _⟩ := FF.ex
  subst e0
  obtain ⟨c, rfl⟩ := He.codeIn_ref hcd
  have hc : (He.cT g.c.K p).1 = c := He.codeOf_eq lk rfl
  exact fn_of lk hcd sc (fun vs H Q E h => h.1.trans hn.symm) fun A outer s H vs Q E hr h => ⟨_, body ⟨.ref c, A, outer, s, H, E⟩ (by rw [hc]) (cgOf sc) tkOf hr, spP_body hN h⟩
/-- the tables of the defs with lambdas, of which there is one -/
theorem ttT_base {g : Gd} {fa : List He.Fa} {fn : List He.DefD} {ex : PySem.W.Frag → Bool} {cx : PySem.W.Frag → Ct} {p : He.Defn} {q : Str} (T : PG g fa fn ex cx) (h : ∀ K, (cx K).TT = ttOf [(p, q)] K := by intro _; rfl) : LamX.TabB g.base g.mg (He.cT g.c.K p).1 (He.cT g.c.K p).2 := by
  refine g.tb ((He.cT g.c.K p).1, (He.cT g.c.K p).2, q) ?_
  have e : g.c.TT = (cx g.c.K).TT := congrArg Ct.TT T.ctx
  rw [e, h]
  exact List.mem_singleton.mpr rfl
theorem ttT_mem {g : Gd} {fa : List He.Fa} {fn : List He.DefD} {ex : PySem.W.Frag → Bool} {cx : PySem.W.Frag → Ct} {p : He.Defn} {q : Str} (T : PG g fa fn ex cx) (h : ∀ K, (cx K).TT = ttOf [(p, q)] K := by intro _; rfl) : ((He.cT g.c.K p).2, q) ∈ g.c.T := by
  have e : g.c.TT = (cx g.c.K).TT := congrArg Ct.TT T.ctx
  unfold Ct.T
  rw [e, h]
  exact List.mem_singleton.mpr rfl
theorem ttT_one {g : Gd} {fa : List He.Fa} {fn : List He.DefD} {ex : PySem.W.Frag → Bool} {cx : PySem.W.Frag → Ct} {p : He.Defn} {q : Str} (T : PG g fa fn ex cx) (h : ∀ K, (cx K).TT = ttOf [(p, q)] K := by intro _; rfl) : ∀ z ∈ g.c.T, z.1 = (He.cT g.c.K p).2 → z.2 = q := fun z hz _ => by
  have e : g.c.TT = (cx g.c.K).TT := congrArg Ct.TT T.ctx
  unfold Ct.T at hz
  rw [e, h] at hz
  rw [List.mem_singleton.mp hz]
end A

/-! The A-layer, part 30: dict displays as data. -/
namespace A
open PySem PySem.Spec PyProof.Rows L2
def dDct0 : DE := fun _ st => .ok (.v (.dct true [] []) false) st
def dDct1 (i j : Int) : DE := fun _ st => .ok (.v (.dct true [.inl i] [.int j]) false) st
section
variable {X : Cx} {c : Ct} {W : WX} {pos p1 p2 : Pos} {i j : Int} {j1 j2 : Str}
theorem pea_dct0 : PEA X c W (.Dict [] [] pos) dDct0 := pe_dnewK.imp fun σ H Q ⟨F, m, s, S, hc, R, P⟩ => fun p hp =>
  P m _ _ (Step.of (same_upd hp)) (R.same (same_upd hp)) (.v (.dct (ks := []) (xs := []) (vs := []) upd_same rfl (R.free hp) .nil) fun e => nomatch e)
theorem upd_twice {H : Hp} {p : Addr} {a b : HO} : upd (upd H p a) p b = upd H p b := by
  funext q
  by_cases e : q = p
  · rw [e, upd_same, upd_same]
  · rw [upd_ne e, upd_ne e, upd_ne e]
theorem pea_dct1 {k1 k2} : PEA X c W (.Dict [some (.Constant (.int i) k1 p1)] [.Constant (.int j) k2 p2] pos) (dDct1 i j) :=
  (pe_disp (pps_cons pe_int pe_int pps_nil) rfl rfl (by simp) (by simp)).imp fun σ H Q ⟨F, m, s, S, hc, R, P⟩ => fun p hp => by
    refine ⟨upd_same, [(.inl i, .int j)], rfl, by simp, ?_⟩
    rw [upd_twice]
    exact P m _ _ (Step.of (same_upd hp)) (R.same (same_upd hp)) (.v (.dct (ks := [.inl i]) (xs := [.int j]) (vs := [.int j]) upd_same rfl (R.free hp) (.cons (.int j) .nil)) fun e => nomatch e)
end
end A

/-! The A-layer, part 31: enumerate over a tuple. -/
namespace L2
open PySem PySem.Spec PyProof.Rows
theorem meets_enumerate_one {v : Value} {o : Obj} {H : Heap → Prop} (B : Begins v o H) :
    Meets (Builtin.«enumerate.__new__» ⟨[.type "enumerate", v], []⟩) (fun _ R s => H s.heap ∧
      R (.ok (.ret (.ref (s.heap.push o).objs.size))) { s with heap := (s.heap.push o).push { cls := .type "enumerate", data := .fields #[.none, .bool false, .ref s.heap.objs.size, rawInt 0, .none, .none] } }) :=
  .of_wp fun prog w A R s h => by
    obtain ⟨hp, g, d, tk, os⟩ := s
    obtain ⟨h1, h⟩ := h
    have hsub := sub_enumerate
    have q1 : ∀ {A' : Around} {E : Value → Shared → Prop} {Q : Value → Shared → Prop}, Q (.ref hp.objs.size) ⟨hp.push o, g, d, tk, os⟩ → wpAny (model prog w) A' (pyIter v) Q E ⟨hp, g, d, tk, os⟩ :=
      fun q => B.iter prog w _ _ ⟨hp, g, d, tk, os⟩ _ h1 q
    wp_walk using q1
    refine wpAny_stack_any fun st => wpAny_pure ?_
    split
    · rename_i c _ _ _ _ _
      cases (c == Value.type "enumerate")
      · wp_walk using q1
        exact ⟨_, rfl, h⟩
      · wp_walk using q1
        exact ⟨_, rfl, h⟩
    · wp_walk using q1
      exact ⟨_, rfl, h⟩
theorem enum_one {prog : Program} {w : World} {A : Around} {E : Value → Shared → Prop} {s : Shared} {v : Value} {o : Obj} {H : Heap → Prop} {Q : Value → Shared → Prop} (B : Begins v o H) (h1 : H s.heap)
    (h : ∀ h', IsEnum h' (s.heap.objs.size + 1) s.heap.objs.size 0 .none → h'.get? s.heap.objs.size = some o → h'.objs.size = s.heap.objs.size + 2 →
      (∀ b o, s.heap.get? b = some o → h'.get? b = some o) → Q (.ref (s.heap.objs.size + 1)) { s with heap := h' }) :
    wpAny (model prog w) A (call (.type "enumerate") [v]) Q E s := by
  refine callType_new F.called_enumerate (by decide) (F.typeCall_enumerate_1 _) (F.newCall_enumerate_1 _) (fun obj => F.args_object_init_2 obj _) F.entry_enumerate_new (meets_enumerate_one B) ⟨h1, ?_⟩
  have hz : (s.heap.push o).objs.size = s.heap.objs.size + 1 := Heap.size_push ..
  show _ ∧ _
  rw [hz]
  have he : IsEnum ((s.heap.push o).push { cls := .type "enumerate", data := .fields #[.none, .bool false, .ref s.heap.objs.size, rawInt 0, .none, .none] }) (s.heap.objs.size + 1) s.heap.objs.size 0 .none := by
    have := Heap.get?_push_size (s.heap.push o) (o := { cls := .type "enumerate", data := .fields #[.none, .bool false, .ref s.heap.objs.size, rawInt 0, .none, .none] }) rfl
    rw [hz] at this; exact this
  refine ⟨⟨_, he, rfl⟩, h _ he (Heap.get?_push_of_some _ (Heap.get?_push_size _ B.free)) (by rw [Heap.size_push, hz]) fun b o x => Heap.get?_push_of_some _ (Heap.get?_push_of_some _ x)⟩
/-- the tuple at a, each item in a new pair -/
def IteT (K : PySem.W.Frag) (a : Addr) : It :=
  ⟨fun i H => ∃ (xs : List V) (x : V), SqT K H a xs ∧ xs[i]? = some x, fun i H v H' => ∃ T x, v = .ref T ∧ H T = none ∧ H' = upd H T (.tup [.int (i : Nat), x]) ∧ ∀ xs, SqT K H a xs → xs[i]? = some x, fun i H => ∃ xs : List V, SqT K H a xs ∧ xs.length ≤ i⟩
theorem turn_enumT {P : Program} {w : World} {K : PySem.W.Frag} {elts : List Expr} {kk : Nat} {tpos : Pos} (a e it : Addr) (hae : e ≠ a) (hai : a ≠ it) :
    Turn P w K (.Tuple elts kk tpos) (IteT K a) [e, it] e (fun i h => (∃ old, IsEnum h e it ((i : Nat) : Int) old) ∧ h.IsTupleIter it a i ∧ e ≠ it) where
  mem := by simp
  obj := fun i h st b hb => by
    obtain ⟨⟨old, he⟩, ⟨o, ho, hc, hd⟩, _⟩ := st
    have e' : b = e ∨ b = it := by simpa using hb
    rcases e' with z | z
    · rw [z]; exact ⟨_, he, fun v q => nomatch q⟩
    · rw [z]; exact ⟨o, ho, fun v q => by rw [hd] at q; cases q⟩
  keep := fun i h h' st k => let ⟨⟨old, he⟩, hi, hne⟩ := st; ⟨⟨old, k e (by simp) _ he⟩, hi.at fun o q => k it (by simp) o q, hne⟩
  item := by
    intro X hP hw hK hc i pins s σ H E I hf st hg
    subst hP hw hK
    obtain ⟨⟨old, he⟩, hit, hne⟩ := st
    obtain ⟨xs, x, hq, hx⟩ := hg
    obtain ⟨its, rv, p, hz⟩ := I.tuple hq
    obtain ⟨u, hu, ru⟩ := rv.get hx
    have hel : e < s.heap.objs.size := Heap.lt_size he
    have hil : it < s.heap.objs.size := by obtain ⟨_, q, _⟩ := hit; exact Heap.lt_size q
    have D := Draws.tuple (prog := X.prog) (w := X.w) (A := X.A.in1) (I.ok.hd hc) it a hai its.toArray
    have hlt : i < its.toArray.size := by
      have := (List.getElem?_eq_some_iff.mp hu).1
      simpa using this
    refine wpAny_pyNext_enum_itemD D he ⟨hit, (show s.heap.IsTuple a its.toArray from p)⟩ hlt hne (by simp [hne, hae]) fun x' h' tk hPx ho hst hT hsz hk => ?_
    have ex : x' = u := by
      have q : its.toArray[i]? = some x' := hPx
      have q2 : its.toArray[i]? = some u := by simpa using hu
      rw [q] at q2
      exact Option.some.inj q2
    subst ex
    obtain ⟨hit', _⟩ := hst
    refine ⟨_, rfl, wpAny_letOwnedTupleGo_enum (s := { s with heap := h', toks := tk + 1 }) ho fun h'' he' sb => ?_⟩
    have hT2 : h''.get? s.heap.objs.size = some { cls := .type "tuple", data := .seq #[.int i tk, x'] } := (sb.2 _ (Nat.ne_of_gt hel)).trans hT
    have new : ObjOk X.prog X.w (upd H s.heap.objs.size (.tup [.int (i : Nat), x])) h'' s.heap.objs.size (.tup [.int (i : Nat), x]) :=
      ⟨by show 2 ≤ sizeLine; decide, [.int i tk, x'], .cons ⟨_, rfl⟩ (.cons ru .nil), ⟨_, hT2, rfl, _, rfl⟩⟩
    have I1 : Inv X pins σ (upd H s.heap.objs.size (.tup [.int (i : Nat), x])) { s with heap := h'', toks := tk + 1 } :=
      I.turnedNew (ch := [e, it]) (fun b ob hb q => (sb.2 b (fun z => hb (by simp [z]))).trans (hk b ob (fun z => hb (by simp [z])) (fun z => hb (by simp [z])) q)) hf (Nat.le_refl _) new
    refine ⟨.ref s.heap.objs.size, _, I1, rfl, ⟨_, x, rfl, I.hok.fresh (Nat.le_refl _), rfl, fun ys hy => by rw [I.tuple_inj hy hq]; exact hx⟩, ⟨⟨x', ?_⟩, hit'.at fun o q => (sb.2 it (Ne.symm hne)).trans q, hne⟩, fun b hb => ?_⟩
    · have e1 : ((i + 1 : Nat) : Int) = (i : Int) + 1 := by omega
      rw [e1]; exact he'
    · have hb' : b < s.heap.objs.size := by
        have e' : b = e ∨ b = it := by simpa using hb
        rcases e' with z | z
        · rw [z]; exact hel
        · rw [z]; exact hil
      rw [upd_ne (Nat.ne_of_lt hb')]
      exact (hf b hb).1
  done := by
    intro X hP hw hK hc i pins s σ H E I hf st hg
    subst hP hw hK
    obtain ⟨⟨old, he⟩, hit, hne⟩ := st
    obtain ⟨xs, hq, hx⟩ := hg
    obtain ⟨its, rv, p, hz⟩ := I.tuple hq
    obtain ⟨f0, f1, f2, f3, f4, f5⟩ := hf it (by simp)
    have hl := rv.length
    have tp : s.heap.IsTuple a its.toArray := p
    have hT : s.TypeIs (.ref e) "enumerate" := ⟨_, he, rfl⟩
    unfold pyNext
    refine wpAny_bind (wpAny_attempt (wpAny_callSpecial?_slot (name := Str.ofString "__next__") hT F.slot_enumerate_next
      (wpAny_call_entry F.slot_enumerate_next hT F.entry_enumerate_next ?_ (F.args_enumerate_next_1 _))))
    show wpAny _ _ (field (.ref e) 2 >>= _) _ _ _
    refine wpAny_bind (wpAny_field he rfl (x := .ref it) rfl ?_)
    refine wpAny_bind (wpAny_nextOf_tuple_end (I.ok.hd hc) hit tp (by simp; omega) fun h' x he' hx' => ?_)
    obtain ⟨o, ho, hc'⟩ := hx'
    refine wpAny_bind (wpAny_isInstance (T := "StopIteration") (b := true) ⟨o, ho, hc'⟩ isSubtype_stop ?_)
    exact wpAny_pure ⟨rfl, I.turned (t' := s.toks) (fun b o hb q => he' b o hb q) f0 f1 f3 f4 f5⟩
  self := fun A i s Q E st h => let ⟨⟨_, he⟩, _⟩ := st; wpAny_pyIter_enum he h
def iEnum2 (K : PySem.W.Frag) (ta : TA) : TI := fun σ H R => ta σ H fun vs H1 => ∃ a, vs = [.ref a] ∧ ((∃ xs, SqL K H1 a xs) ∧ R (Ite K a) H1 ∨ (∃ xs, SqT K H1 a xs) ∧ R (IteT K a) H1)
theorem pi_enum2 {X : Cx} {e : Expr} {ta : TA} {p pos tpos : Pos} {elts : List Expr} {kk : Nat} (hg : Gl X "enumerate") (hm : X.mg "enumerate" = none) (ha : PA X [e] ta) (hs : starEach [e] X.env = [(false, eval e X.env)] := by rfl) :
    PI X (.Tuple elts kk tpos) (.Call (.Name "enumerate" p) [e] [] pos) (iEnum2 X.K ta) := by
  refine ⟨fun pins s σ H R I h => ?_⟩
  refine Call_ (ld_blt I hg hm boot_enumerate (PyProof.Rows.callWith_type1 (thn (ha.run pos pins s σ H _ I h) fun us s1 ⟨vs, H1, I1, r1, q1⟩ => ?_) hs rfl))
  obtain ⟨a, ex, hq⟩ := q1
  subst ex
  cases r1 with
  | cons r rr =>
    cases rr
    cases r
    rcases hq with ⟨⟨xs, hq⟩, q⟩ | ⟨⟨xs, hq⟩, q⟩
    · obtain ⟨its, rv, p', hz⟩ := I1.list hq
      refine call_enumerate_list p'.isList fun h' he hit hsz hk => wpAny_pyIter_enum he ?_
      have I2 : Inv X pins σ H1 { s1 with heap := h' } := I1.kept (t' := s1.toks) hk
      refine ⟨s1.heap.objs.size + 1, [s1.heap.objs.size + 1, s1.heap.objs.size], _, _, H1, rfl, I2, turn_enum a (s1.heap.objs.size + 1) s1.heap.objs.size, ⟨⟨.none, he⟩, hit, Nat.succ_ne_self _⟩, fun b hb => ?_, q⟩
      have e' : b = s1.heap.objs.size + 1 ∨ b = s1.heap.objs.size := by simpa using hb
      have hle : s1.heap.objs.size ≤ b := by
        rcases e' with z | z
        · rw [z]; exact Nat.le_add_right _ _
        · rw [z]; exact Nat.le_refl _
      exact I1.fpOk hle (I1.hok.fresh hle)
    · obtain ⟨its, rv, p', hz⟩ := I1.tuple hq
      have tp : s1.heap.IsTuple a its.toArray := p'
      have al : a < s1.heap.objs.size := by
        obtain ⟨o, ho, _⟩ := tp
        exact Heap.lt_size ho
      refine enum_one (begins_tuple a its.toArray) tp fun h' he hit hsz hk => wpAny_pyIter_enum he ?_
      have I2 : Inv X pins σ H1 { s1 with heap := h' } := I1.kept (t' := s1.toks) hk
      refine ⟨s1.heap.objs.size + 1, [s1.heap.objs.size + 1, s1.heap.objs.size], _, _, H1, rfl, I2, turn_enumT a (s1.heap.objs.size + 1) s1.heap.objs.size (Ne.symm (Nat.ne_of_lt (Nat.lt_succ_of_lt al))) (Nat.ne_of_lt al), ⟨⟨.none, he⟩, ⟨_, hit, rfl, rfl⟩, Nat.succ_ne_self _⟩, fun b hb => ?_, q⟩
      have e' : b = s1.heap.objs.size + 1 ∨ b = s1.heap.objs.size := by simpa using hb
      have hle : s1.heap.objs.size ≤ b := by
        rcases e' with z | z
        · rw [z]; exact Nat.le_add_right _ _
        · rw [z]; exact Nat.le_refl _
      exact I1.fpOk hle (I1.hok.fresh hle)
end L2
namespace A
open PySem PySem.Spec PyProof.Rows L2
section
variable {X : Cx} {c : Ct} {W : WX} {e : Expr} {da : DA} {p pos : Pos}
theorem walk_enumT {a : Addr} {ps : List PV} : WalkA c (IteT c.K a) (enumP 0 ps) (TpA c a ps) where
  stay := fun F m N H m' N' H' s h => h.stay s
  av := fun F m N H b hb h => h.av hb
  over := fun F m N H D acc acc' hz hD h => h.over hz hD
  stop := fun F m st S σ H hc R h => by
    obtain ⟨vs, h0, h1, h2⟩ := h
    exact ⟨vs, h1, by rw [enumP_len, Vls.length h2]; exact Nat.le_refl _⟩
  go := fun F m st S σ H i x hc R h e => by
    obtain ⟨vs, h0, h1, h2⟩ := h
    obtain ⟨p, e1, _⟩ := enumP_get e
    obtain ⟨v, e2, _⟩ := Vls.get h2 e1
    exact ⟨vs, v, h1, e2⟩
  yld := fun F m st S σ H i x v H' hc R h e y => by
    obtain ⟨vs, h0, h1, h2⟩ := h
    obtain ⟨p, e1, rfl⟩ := enumP_get e
    obtain ⟨v', e2, h4⟩ := Vls.get h2 e1
    obtain ⟨T, x, rfl, hT, rfl, y⟩ := y
    have := y vs h1
    rw [e2] at this; cases this
    rw [Nat.zero_add]
    exact tupAt (c := c) hT (.cons (.int _) (.cons h4 .nil))
def dEnum2 (da : DA) : DA := fun S st => (da S st).then fun xs st1 => match xs with
  | [x] => match seqP x with
    | some (_, ps) => .ok (enumP 0 ps) st1
    | none => .bad
  | _ => .bad
theorem pia_enum2 {elts : List Expr} {kk} {tpos : Pos} (hK : c.K = X.K) (hm : X.mg "enumerate" = none) (he : PAA X c W [e] da) (hg : Gl X "enumerate" := by rfl) (hs : starEach [e] X.env = [(false, eval e X.env)] := by rfl) : PIA X c W (.Tuple elts kk tpos) (.Call (.Name "enumerate" p) [e] [] pos) (dEnum2 da) :=
  (pi_enum2 hg hm he hs).imp fun σ H R ⟨F, m, s, S, hc, R0, P⟩ => ⟨F, m, s, S, hc, R0, (PostI.bind P).imp fun v H1 ⟨m1, s1, xs, _, a1, R1, r1, P1⟩ => by
    rw [← hK]
    split at P1
    · rename_i x
      cases r1 with
      | cons r1 t =>
      cases t
      split at P1
      · rename_i k ps q
        obtain ⟨a, rfl, h⟩ := seqP_ok hc r1 q
        cases k with
        | true =>
          have h : LA c a ps F m1 s1.length H1 := h
          obtain ⟨vs, h1, h2⟩ := h.sq
          exact ⟨a, rfl, .inl ⟨⟨vs, h1⟩, PostI.here P1 R1 walk_enum h⟩⟩
        | false =>
          have h : TpA c a ps F m1 s1.length H1 := h
          obtain ⟨vs, h0, h1, h2⟩ := id h
          exact ⟨a, rfl, .inr ⟨⟨vs, h1⟩, PostI.here P1 R1 walk_enumT h⟩⟩
      · exact P1.elim
    · exact P1.elim⟩
end
end A

/-! The A-layer, part 32: dicts whose keys are numbers or texts: {}, d[k], d.get(k, x), d[k] = x, for k in d, sorted(d). -/
namespace A
open PySem PySem.Spec PyProof.Rows L2
def keyA : AV → Option Key
  | .v p _ => keyP p
  | _ => none
def dctAtK (st : Store) (n : Nat) : Option (List (Key × AV)) := match st[n]? with
  | some (.dK kvs) => some kvs
  | _ => none
def rdAtK (st : Store) (n : Nat) : Option (List (Key × AV)) := match st[n]? with
  | some (.dK kvs) => some kvs
  | some (.lkK kvs) => some kvs
  | _ => none
def getKA (kvs : List (Key × AV)) (k : Key) : Option AV := (kvs.find? fun kv => decide (kv.1 = k)).map (·.2)
def putKA (kvs : List (Key × AV)) (k : Key) (y : AV) : List (Key × AV) := if kvs.any fun kv => decide (kv.1 = k) then kvs.map fun kv => if kv.1 = k then (kv.1, y) else kv else kvs ++ [(k, y)]
section
variable {X : Cx} {c : Ct} {W : WX} {F : Fix} {m : Nat → Addr} {N : Nat} {H : Hp} {S : Slots} {σ : St} {st : Store}
theorem keyA_ok {x : AV} {v : V} {k : Key} (h : AVal F m N H x v) (e : keyA x = some k) : v = kV k := by
  cases h with
  | v h _ => exact keyP_ok h e
  | ref _ => cases e
abbrev PK (F : Fix) (m : Nat → Addr) (N : Nat) (H : Hp) : List (Key × AV) → List (Key × V) → Prop := Paired (fun p q => p.1 = q.1 ∧ AVal0 F m N H p.2 q.2)
theorem dctAtK_ok (R : Rel F m st S σ H) {n : Nat} {kvs : List (Key × AV)} (e : dctAtK st n = some kvs) : n < st.length ∧ ∃ us, H (m n) = some (.dK us) ∧ PK F m st.length H kvs us := by
  unfold dctAtK at e
  split at e
  · rename_i ys h
    cases e
    obtain ⟨u, h1, h2⟩ := R.sto n _ h
    cases h2 with
    | dK h2 => exact ⟨(List.getElem?_eq_some_iff.mp h).1, _, h1, h2⟩
  · cases e
theorem rdAtK_ok (R : Rel F m st S σ H) {n : Nat} {kvs : List (Key × AV)} (e : rdAtK st n = some kvs) : n < st.length ∧ ∃ us, Rd H (m n) (.dK us) ∧ PK F m st.length H kvs us := by
  unfold rdAtK at e
  split at e
  · rename_i ys h
    cases e
    obtain ⟨u, h1, h2⟩ := R.sto n _ h
    cases h2 with
    | dK h2 => exact ⟨(List.getElem?_eq_some_iff.mp h).1, _, .inl h1, h2⟩
  · rename_i ys h
    cases e
    obtain ⟨u, h1, h2⟩ := R.sto n _ h
    cases h2 with
    | lkK h2 => exact ⟨(List.getElem?_eq_some_iff.mp h).1, _, .inr ⟨_, h1⟩, h2⟩
  · cases e
theorem nlK {n : Nat} {xs : List (Key × AV)} (e : dctAtK st n = some xs) : ∀ o, st[n]? = some o → o.lkd = false := fun o z => by
  unfold dctAtK at e
  rw [z] at e
  cases o <;> first | rfl | cases e
theorem getKA_ok {k : Key} : ∀ {kvs : List (Key × AV)} {us : List (Key × V)}, PK F m N H kvs us → (∀ y, getKA kvs k = some y → ∃ v, valV us k = some v ∧ AVal0 F m N H y v) ∧ (getKA kvs k = none → valV us k = none)
  | _, _, .nil => ⟨fun y e => (by cases e), fun _ => rfl⟩
  | (k1, y1) :: kvs, (k2, v2) :: us, .cons h t => by
    obtain ⟨e1, e2⟩ := h
    obtain rfl : k1 = k2 := e1
    have ih := getKA_ok (k := k) t
    by_cases z : k1 = k
    · refine ⟨fun y e => ⟨v2, valV_pos z, ?_⟩, fun e => ?_⟩
      · simp [getKA, z] at e
        subst e; exact e2
      · simp [getKA, z] at e
    · rw [valV_neg z]
      have q : getKA ((k1, y1) :: kvs) k = getKA kvs k := by simp [getKA, z]
      rw [q]
      exact ih
theorem putKA_ok {k : Key} {y : AV} {v : V} (hy : AVal0 F m N H y v) {kvs : List (Key × AV)} {us : List (Key × V)} (h : PK F m N H kvs us) : PK F m N H (putKA kvs k y) (putK us k v) := by
  have any_eq : (kvs.any fun kv => decide (kv.1 = k)) = us.any fun kv => decide (kv.1 = k) := by
    induction h with
    | nil => rfl
    | cons h t ih => simp only [List.any_cons, h.1, ih]
  have mp : PK F m N H (kvs.map fun kv => if kv.1 = k then (kv.1, y) else kv) (us.map fun kv => if kv.1 = k then (kv.1, v) else kv) := by
    clear any_eq
    induction h with
    | nil => exact .nil
    | @cons a b as bs h t ih =>
      rw [List.map_cons, List.map_cons]
      refine .cons ?_ ih
      by_cases z : a.1 = k
      · rw [if_pos z, if_pos (h.1 ▸ z)]; exact ⟨h.1, hy⟩
      · rw [if_neg z, if_neg (h.1 ▸ z)]; exact h
  unfold putKA putK
  rw [any_eq]
  split
  · exact mp
  · exact pairedAppend h (.cons ⟨rfl, hy⟩ .nil)
end

/-! ### {} -/
def dDictK : DE := fun _ st => .ok (.ref st.length) (st ++ [.dK []])
section
variable {X : Cx} {c : Ct} {W : WX} {o k e f : Expr} {de dk dx : DE} {pos pos' apos cpos : Pos}
theorem pea_dictK : PEA X c W (.Dict [] [] pos) dDictK := pe_dnewK.imp fun σ H Q ⟨F, m, s, S, hc, R, P⟩ => fun p hp => by
  obtain ⟨m', s', R', e⟩ := R.push (o := .dK []) (u := .dK []) hp (same_upd hp) upd_same fun m' s e => .dK .nil
  have := P m' (.ref (m' s.length)) _ s' R' (.ref (by simp))
  rw [e] at this
  exact this
theorem rdGetK {H : Hp} {a : Addr} {kvs : List (Key × V)} {k : Key} (e : Rd H a (.dK kvs)) : DGet H a (kV k) (valV kvs k) := .inl ⟨kvs, k, e, rfl, rfl⟩
/-! ### d[k] -/
def fKIx (x k : AV) (st : Store) : Res AV := match x with
  | .ref n => match keyA k, rdAtK st n with
    | some ks, some kvs => okV st (getKA kvs ks)
    | _, _ => .bad
  | _ => .bad
theorem fKIx_ok {F : Fix} {m : Nat → Addr} {H : Hp} {S : Slots} {σ : St} {st : Store} {x y : AV} {v w : V} {Q : VK} (R : Rel F m st S σ H) (rx : AVal F m st.length H x v) (ry : AVal F m st.length H y w) (P : PostE rV W F m st.length H S σ (fKIx x y st) Q) :
    ∃ a u, v = .ref a ∧ DGet H a w (some u) ∧ Q u H := by
  unfold fKIx at P
  cases rx with
  | v _ _ => exact P.elim
  | @ref n hn =>
    cases q1 : keyA y with
    | none => simp only [q1] at P; exact P.elim
    | some ks =>
      cases q2 : rdAtK st n with
      | none => simp only [q1, q2] at P; exact P.elim
      | some kvs =>
        simp only [q1, q2] at P
        obtain rfl := keyA_ok ry q1
        obtain ⟨_, us, hu, ru⟩ := rdAtK_ok R q2
        obtain ⟨g1, g2⟩ := getKA_ok (k := ks) ru
        cases q3 : getKA kvs ks with
        | none => rw [q3] at P; exact P.elim
        | some z =>
          rw [q3] at P
          obtain ⟨u, hv, rz⟩ := g1 z q3
          exact ⟨_, u, rfl, by rw [← hv]; exact rdGetK hu, PostE.here P R rz.strip⟩
def dKIx (de dk : DE) : DE := fun S st => (de S st).then fun x st1 => (dk S st1).then fun y st2 => fKIx x y st2
theorem pea_kIx (cn : Cn X c) (ho : PEA X c W o de) (hi : PEA X c W k dk) (hs : NoSl k := by intro _ _; rfl) : PEA X c W (.Subscript o k pos) (dKIx de dk) := (pe_dget (by have := cn.room.un; omega) ho hi hs).imp fun σ H Q ⟨F, m, s, S, hc, R, P⟩ =>
  ⟨F, m, s, S, hc, R, (PostE.bind P).imp fun v H1 ⟨m1, s1, x, _, a1, R1, r1, P1⟩ => ⟨F, m1, s1, S, hc, R1, (PostE.bind P1).imp fun w H2 ⟨m2, s2, y, _, a2, R2, r2, P2⟩ => fKIx_ok R2 (AVal.step a2 r1) r2 P2⟩⟩
/-! ### d.get(k, x) -/
def fKGet (x k z : AV) (st : Store) : Res AV := match x with
  | .ref n => match keyA k, rdAtK st n with
    | some ks, some kvs => match getKA kvs ks with
      | some y => .ok (A.strip y) st
      | none => .ok z st
    | _, _ => .bad
  | _ => .bad
theorem fKGet_ok {F : Fix} {m : Nat → Addr} {H : Hp} {S : Slots} {σ : St} {st : Store} {x y z : AV} {v w u : V} {Q : VK} (R : Rel F m st S σ H) (rx : AVal F m st.length H x v) (ry : AVal F m st.length H y w) (rz : AVal F m st.length H z u) (P : PostE rV W F m st.length H S σ (fKGet x y z st) Q) :
    ∃ a o, v = .ref a ∧ DGet H a w o ∧ Q (o.getD u) H := by
  unfold fKGet at P
  cases rx with
  | v _ _ => exact P.elim
  | @ref n hn =>
    cases q1 : keyA y with
    | none => simp only [q1] at P; exact P.elim
    | some ks =>
      cases q2 : rdAtK st n with
      | none => simp only [q1, q2] at P; exact P.elim
      | some kvs =>
        simp only [q1, q2] at P
        obtain rfl := keyA_ok ry q1
        obtain ⟨_, us, hu, ru⟩ := rdAtK_ok R q2
        obtain ⟨g1, g2⟩ := getKA_ok (k := ks) ru
        cases q3 : getKA kvs ks with
        | none =>
          rw [q3] at P
          exact ⟨_, none, rfl, by rw [← g2 q3]; exact rdGetK hu, PostE.here P R rz⟩
        | some z =>
          rw [q3] at P
          obtain ⟨u, hv, rz⟩ := g1 z q3
          exact ⟨_, some u, rfl, by rw [← hv]; exact rdGetK hu, PostE.here P R rz.strip⟩
def isDctK (st : Store) : AV → Bool
  | .ref n => (rdAtK st n).isSome
  | _ => false
theorem isDctK_ok {F : Fix} {m : Nat → Addr} {H : Hp} {S : Slots} {σ : St} {st : Store} {x : AV} {v : V} (R : Rel F m st S σ H) (rx : AVal F m st.length H x v) (e : isDctK st x = true) : ∃ a, v = .ref a ∧ IsD H a := by
  cases rx with
  | v _ _ => cases e
  | @ref n hn =>
    cases q : rdAtK st n with
    | none => simp [isDctK, q] at e
    | some kvs =>
      obtain ⟨_, us, hu, _⟩ := rdAtK_ok R q
      exact ⟨_, rfl, .inl ⟨us, hu⟩⟩
def dKGet (de dk dx : DE) : DE := fun S st => (de S st).then fun x st1 => bif isDctK st1 x then (dk S st1).then fun y st2 => (dx S st2).then fun z st3 => fKGet x y z st3 else .bad
theorem pea_kGet (cn : Cn X c) (ho : PEA X c W o de) (hi : PEA X c W e dk) (hx : PEA X c W f dx) (hM : M2 X o "get" apos e f cpos := by exact ⟨by rfl, by rfl, by rfl, by rfl⟩) : PEA X c W (.Call (.Attribute o "get" apos) [e, f] [] cpos) (dKGet de dk dx) := (pe_dget2 (by have := cn.room.un; omega) ho hi hx hM).imp fun σ H Q ⟨F, m, s, S, hc, R, P⟩ =>
  ⟨F, m, s, S, hc, R, (PostE.bind P).imp fun v H1 ⟨m1, s1, x, _, a1, R1, r1, P1⟩ => by
    cases q : isDctK s1 x with
    | false => rw [q] at P1; exact P1.elim
    | true =>
      rw [q] at P1
      obtain ⟨a, rfl, hd⟩ := isDctK_ok R1 r1 q
      refine ⟨a, rfl, hd, F, m1, s1, S, hc, R1, (PostE.bind P1).imp fun w H2 ⟨m2, s2, y, _, a2, R2, r2, P2⟩ => ⟨F, m2, s2, S, hc, R2, (PostE.bind P2).imp fun u H3 ⟨m3, s3, z, _, a3, R3, r3, P3⟩ => ?_⟩⟩
      obtain ⟨a', o', e, g, hq⟩ := fKGet_ok R3 (AVal.step (a2.trans a3) r1) (AVal.step a3 r2) r3 P3
      cases e
      exact ⟨o', g, hq⟩⟩
/-! ### d[k] = x -/
def fKPut (x k y : AV) (st : Store) : Option Store := match x with
  | .ref n => match keyA k, dctAtK st n with
    | some ks, some kvs => bif Nat.blt kvs.length 1000000 then some (st.set n (.dK (putKA kvs ks (A.strip y)))) else none
    | _, _ => none
  | _ => none
def dKPut (dv de dk : DE) : DS := fun S st => (dv S st).flow S fun y st1 => (de S st1).flow S fun x st2 => (dk S st2).flow S fun i st3 => match fKPut x i y st3 with
  | some st4 => .nx S st4
  | none => .bad
theorem fKPut_ok {F : Fix} {m : Nat → Addr} {H : Hp} {S : Slots} {σ : St} {st st4 : Store} {x y k : AV} {v w u : V} (R : Rel F m st S σ H) (rx : AVal F m st.length H x v) (rk : AVal F m st.length H k u) (ry : AVal F m st.length H y w) (e : fKPut x k y st = some st4) :
    ∃ a H4, v = .ref a ∧ DPut H a u w H4 ∧ Step m st.length H m st4.length H4 ∧ Rel F m st4 S σ H4 := by
  unfold fKPut at e
  cases rx with
  | v _ _ => cases e
  | @ref n hn =>
    cases q1 : keyA k with
    | none => simp only [q1] at e; cases e
    | some ks =>
      cases q2 : dctAtK st n with
      | none => simp only [q1, q2] at e; cases e
      | some kvs =>
        simp only [q1, q2] at e
        cases q3 : Nat.blt kvs.length 1000000 with
        | false => rw [q3] at e; cases e
        | true =>
          rw [q3] at e
          cases e
          obtain rfl := keyA_ok rk q1
          obtain ⟨_, us, hu, ru⟩ := dctAtK_ok R q2
          obtain ⟨a, R'⟩ := R.write (o := .dK (putKA kvs ks (A.strip y))) hn (.dK (putKA_ok ry.zero.strip0 ru)) (nlK q2)
          exact ⟨_, _, rfl, DPut.k hu (by rw [← Paired.length ru]; exact lt_line q3), a, R'⟩
theorem psa_kPut (cn : Cn X c) (he : PEA X c W e dx) (ho : PEA X c W o de) (hi : PEA X c W k dk) (hs : swapsWith e (some (.Subscript o k pos')) pos.line X.env = pure false := by rfl) : PSA X c W (.Assign [.Subscript o k pos'] e pos) (dKPut dx de dk) := (ps_dput (by have := cn.room.un; omega) ho hi he hs).imp fun D σ H ⟨F, m, s, S, hc, R, P⟩ =>
  ⟨F, m, s, S, hc, R, (PostS.bind P).imp fun v H1 ⟨m1, s1, y, _, a1, R1, r1, P1⟩ => ⟨F, m1, s1, S, hc, R1, (PostS.bind P1).imp fun v2 H2 ⟨m2, s2, x, _, a2, R2, r2, P2⟩ => ⟨F, m2, s2, S, hc, R2, (PostS.bind P2).imp fun v3 H3 ⟨m3, s3, k, _, a3, R3, r3, P3⟩ => by
    cases q : fKPut x k y s3 with
    | none => rw [q] at P3; exact P3.elim
    | some st4 =>
      rw [q] at P3
      obtain ⟨a, H4, e, g, z, R4⟩ := fKPut_ok R3 (AVal.step a3 r2) r3 (AVal.step (a2.trans a3) r1) q
      exact ⟨a, H4, e, g, P3 m3 σ _ z R4⟩⟩⟩⟩
end
/-! ### for k in d -/
def lkAtK (st : Store) (n : Nat) : Option (List (Key × AV)) := match st[n]? with
  | some (.lkK kvs) => some kvs
  | _ => none
def keyPV : Key → PV
  | .inl i => .int i
  | .inr z => .str z
def dKeysK (de : DE) : DA := fun S st => (de S st).then fun x st1 => match x with
  | .ref n => match lkAtK st1 n with
    | some kvs => .ok (kvs.map fun kv => .v (keyPV kv.1) false) st1
    | none => .bad
  | _ => .bad
def dLockK (i : Nat) (d : DS) : DS := fun S st => match S[i]? with
  | some (some (.ref n)) => match dctAtK st n with
    | some kvs => match d S (st.set n (.lkK kvs)) with
      | .nx S' st' => match lkAtK st' n with
        | some kvs' => .nx S' (st'.set n (.dK kvs'))
        | none => .bad
      | .rt x st' => match lkAtK st' n with
        | some kvs' => .rt x (st'.set n (.dK kvs'))
        | none => .bad
      | _ => .bad
    | none => .bad
  | _ => .bad
section
variable {X : Cx} {c : Ct} {W : WX} {F : Fix} {m m' : Nat → Addr} {N N' n : Nat} {H H' : Hp} {S : Slots} {σ : St} {st : Store} {d : Addr} {ob : Obj} {us : List (Key × V)}
theorem lk_avK (hd : H d = some (.frz ob (.dK us))) {x : AV} {v : V} (h : AVal F m N H x v) : AVal (F.lk d (.frz ob (.dK us))) m N H x v := by
  cases h with
  | ref h => exact .ref h
  | v h f =>
    refine .v h fun e => ?_
    obtain ⟨t, xs, a, vs, e1, e2, h0, ha, r⟩ := f e
    refine ⟨t, xs, a, vs, e1, e2, ?_, ha, r⟩
    show upd F.H0 d _ a = none
    rw [upd_ne (fun z => by rw [z, hd] at ha; cases ha)]
    exact h0
theorem lk_vaK {x : AV} {v : V} (h : AVal (F.lk d (.frz ob (.dK us))) m N H x v) : AVal F m N H x v := by
  cases h with
  | ref h => exact .ref h
  | v h f =>
    refine .v h fun e => ?_
    obtain ⟨t, xs, a, vs, e1, e2, h0, ha, r⟩ := f e
    refine ⟨t, xs, a, vs, e1, e2, ?_, ha, r⟩
    have h0 : upd F.H0 d (.frz ob (.dK us)) a = none := h0
    by_cases z : a = d
    · rw [z, upd_same] at h0; cases h0
    · rwa [upd_ne z] at h0
theorem Rel.lkFK (R : Rel F m st S σ H) (hd : H d = some (.frz ob (.dK us))) : Rel (F.lk d (.frz ob (.dK us))) m st S σ H where
  inj := R.inj
  own := fun i hi => by
    by_cases z : m i = d
    · exact .inl (.inr z)
    · rcases R.own i hi with q | q
      · exact .inl (.inl q)
      · refine .inr ?_
        show upd F.H0 d _ (m i) = none
        rw [upd_ne z]; exact q
  tab := R.tab
  keep := fun b o h1 h2 nt => by
    have z : b ≠ d := fun z => h2 (.inr z)
    have h1 : upd F.H0 d _ b = some o := h1
    rw [upd_ne z] at h1
    exact R.keep b o h1 (fun q => h2 (.inl q)) nt
  imm := fun b o h1 h2 => by
    have h1 : upd F.H0 d _ b = some o := h1
    by_cases z : b = d
    · rw [z, upd_same] at h1; cases h1; rw [z]; exact hd
    · rw [upd_ne z] at h1; exact R.imm b o h1 h2
  dom := fun b h => by
    by_cases z : b = d
    · rw [z, hd]; simp
    · have h : upd F.H0 d _ b ≠ none := h
      rw [upd_ne z] at h; exact R.dom b h
  zd := R.zd
  sto := fun i o e => by
    obtain ⟨u, h1, h2⟩ := R.sto i o e
    exact ⟨u, h1, AObj.ground (F := F) (F' := F.lk d (.frz ob (.dK us))) rfl (fun t a l _ => l) h2⟩
  len := R.len
  slo := fun i x e => by
    obtain ⟨v, h1, h2⟩ := R.slo i x e
    exact ⟨v, h1, lk_avK hd h2⟩
mutual
theorem Val.unlkK {L : Bool → Addr → Prop} {nv : HO} (hd : ∀ o, H d = some o → o = .frz ob (.dK us)) (hL : ∀ t, ¬ L t d) : ∀ {p : PV} {v : V}, Val c L H p v → Val c L (upd H d nv) p v
  | _, _, .non => .non
  | _, _, .bl b => .bl b
  | _, _, .int i => .int i
  | _, _, .str x => .str x
  | _, _, .tup h r => .tup (by rw [upd_ne (fun z => by rw [z] at h; have := hd _ h; cases this)]; exact h) (Vls.unlkK hd hL r)
  | _, _, .lst h l r => .lst (by rw [upd_ne (fun z => hL _ (z ▸ l))]; exact h) l (Vls.unlkK hd hL r)
  | _, _, .dct h z l r => .dct (by rw [upd_ne (fun z => hL _ (z ▸ l))]; exact h) z l (Vls.unlkK hd hL r)
  | _, _, .obj h z l r => .obj (by rw [upd_ne (fun z => hL _ (z ▸ l))]; exact h) z l (Vls.unlkK hd hL r)
  | _, _, .scr h => .scr (by
    rcases h with ⟨o, h, l⟩ | h
    · exact .inl ⟨o, by rw [upd_ne (fun z => hL _ (z ▸ l))]; exact h, l⟩
    · exact .inr h)
  | _, _, .ty n => .ty n
  | _, _, .cls n => .cls n
  | _, _, .exn h => .exn (by rw [upd_ne (fun z => by rw [z] at h; have := hd _ h; cases this)]; exact h)
theorem Vls.unlkK {L : Bool → Addr → Prop} {nv : HO} (hd : ∀ o, H d = some o → o = .frz ob (.dK us)) (hL : ∀ t, ¬ L t d) : ∀ {p : List PV} {v : List V}, Vls c L H p v → Vls c L (upd H d nv) p v
  | _, _, .nil => .nil
  | _, _, .cons h r => .cons (Val.unlkK hd hL h) (Vls.unlkK hd hL r)
end
theorem AVal.unlkK {nv : HO} (hd : H d = some (.frz ob (.dK us))) (hm : ∀ t, ¬ Lw F m N t d) {x : AV} {v : V} (h : AVal F m N H x v) : AVal F m N (upd H d nv) x v := by
  have hd' : ∀ o, H d = some o → o = .frz ob (.dK us) := fun o e => by rw [hd] at e; cases e; rfl
  cases h with
  | ref h => exact .ref h
  | v h f =>
    refine .v (Val.unlkK hd' hm h) fun e => ?_
    obtain ⟨t, xs, a, vs, e1, e2, h0, ha, r⟩ := f e
    refine ⟨t, xs, a, vs, e1, e2, h0, ?_, Vls.unlkK hd' (fun t q => hm t q.1) r⟩
    rw [upd_ne (fun z => by rw [z, hd] at ha; cases ha)]
    exact ha
theorem AVal0.unlkK {nv : HO} (hd : H d = some (.frz ob (.dK us))) (hm : ∀ t, ¬ Lw F m N t d) {x : AV} {v : V} (h : AVal0 F m N H x v) : AVal0 F m N (upd H d nv) x v := by
  have hd' : ∀ o, H d = some o → o = .frz ob (.dK us) := fun o e => by rw [hd] at e; cases e; rfl
  cases h with
  | ref h => exact .ref h
  | v h => exact .v (Val.unlkK hd' hm h)
theorem AObj.unlkK {nv : HO} (hd : H d = some (.frz ob (.dK us))) (hm : ∀ t, ¬ Lw F m N t d) {o : AO} {u : HO} (h : AObj F m N H o u) : AObj F m N (upd H d nv) o u := by
  cases h with
  | lst h => exact .lst (Paired.mapP h fun _ _ => AVal0.unlkK hd hm)
  | dK h => exact .dK (Paired.mapP h fun a b z => ⟨z.1, AVal0.unlkK hd hm z.2⟩)
  | dT h => exact .dT (Paired.mapP h fun a b z => ⟨z.1, AVal0.unlkK hd hm z.2⟩)
  | lk h => exact .lk (Paired.mapP h fun a b z => ⟨z.1, AVal0.unlkK hd hm z.2⟩)
  | lkK h => exact .lkK (Paired.mapP h fun a b z => ⟨z.1, AVal0.unlkK hd hm z.2⟩)
  | lkL h => exact .lkL (Paired.mapP h fun _ _ => AVal0.unlkK hd hm)
  | ins h => exact .ins (Paired.mapP h fun a b z => ⟨z.1, AVal0.unlkK hd hm z.2⟩)
/-- the walk is over -/
theorem unlockK {st' : Store} {S' : Slots} {σ' : St} {kvs' : List (Key × AV)} (R : Rel F m st S σ H) (hn : n < st.length) (hd : H (m n) = some (.dK us)) (s : Step m st.length (upd H (m n) (.frz ob (.dK us))) m' st'.length H') (R' : Rel (F.lk (m n) (.frz ob (.dK us))) m' st' S' σ' H') (e : lkAtK st' n = some kvs') :
    H' (m n) = some (.frz ob (.dK us)) ∧ Step m st.length H m' (st'.set n (.dK kvs')).length (upd H' (m n) (.dK us)) ∧ Rel F m' (st'.set n (.dK kvs')) S' σ' (upd H' (m n) (.dK us)) ∧ ∀ x v, AVal (F.lk (m n) (.frz ob (.dK us))) m' st'.length H' x v → AVal F m' (st'.set n (.dK kvs')).length (upd H' (m n) (.dK us)) x v := by
  have hq : H' (m n) = some (.frz ob (.dK us)) := R'.imm _ _ (show upd F.H0 (m n) _ (m n) = _ from upd_same) rfl
  have hn' : n < st'.length := Nat.lt_of_lt_of_le hn s.le
  have em : m' n = m n := s.same n hn
  have e0 : st'[n]? = some (.lkK kvs') := by
    unfold lkAtK at e
    split at e
    · cases e; assumption
    · cases e
  have ro : Paired (fun (p : Key × AV) (q : Key × V) => p.1 = q.1 ∧ AVal0 F m' st'.length H' p.2 q.2) kvs' us := by
    obtain ⟨u, h1, h2⟩ := R'.sto n _ e0
    rw [em, hq] at h1
    cases h1
    have h2 := AObj.ground (F := F.lk (m n) (.frz ob (.dK us))) (F' := F) rfl (fun t a l _ => l) h2
    cases h2 with
    | lkK h => exact h
  have hm : ∀ t, ¬ Lw F m' st'.length t (m n) := fun t q => q.2.2 n hn' em
  have hl : (st'.set n (AO.dK kvs')).length = st'.length := List.length_set
  have hb : ∀ b, b ≠ m n → upd H (m n) (HO.frz ob (.dK us)) b = H b := fun b z => upd_ne z
  rw [hl]
  refine ⟨hq, ⟨s.le, s.same, fun i h1 h2 => ?_, fun b o h k nt => ?_, fun b h => ?_, fun b o h q => ?_⟩, ?_, fun x v h => AVal.unlkK hq hm (lk_vaK h)⟩
  · have := s.new i h1 h2
    by_cases z : m' i = m n
    · rw [z, upd_same] at this; cases this
    · rwa [upd_ne z] at this
  · have z : b ≠ m n := fun z => k n hn z.symm
    rw [upd_ne z]
    exact s.keep b o (by rw [upd_ne z]; exact h) k nt
  · by_cases z : b = m n
    · rw [z, upd_same]; simp
    · rw [upd_ne z]
      exact s.dom b (by rw [upd_ne z]; exact h)
  · have z : b ≠ m n := fun z => by rw [z, hd] at h; cases h; cases q
    rw [upd_ne z]
    exact s.imm b o (by rw [upd_ne z]; exact h) q
  refine ⟨fun i j hi hj => R'.inj i j (by simpa using hi) (by simpa using hj), fun i hi => ?_, fun b o h1 h2 nt => ?_, fun b o h1 h2 => ?_, fun b h => ?_, fun b h => ⟨?_, fun i hi => (R'.zd b h).2 i (by simpa using hi)⟩, fun i o ei => ?_, R'.len, fun i x ei => ?_, tabs_upd0 R'.tab hq rfl fun c q z => by cases z⟩
  · rw [hl] at hi
    by_cases z : m' i = m n
    · rw [z]; exact R.own n hn
    · rcases R'.own i hi with q | q
      · rcases q with q | q
        · exact .inl q
        · exact absurd q z
      · have q : upd F.H0 (m n) _ (m' i) = none := q
        rw [upd_ne z] at q
        exact .inr q
  · have z : b ≠ m n := fun z => by
      rcases R.own n hn with q | q
      · exact h2 (z ▸ q)
      · rw [z, q] at h1; cases h1
    rw [upd_ne z]
    exact R'.keep b o (by show upd F.H0 (m n) _ b = _; rw [upd_ne z]; exact h1) (fun q => q.elim h2 z) nt
  · have z : b ≠ m n := fun z => by
      have := R.imm b o h1 h2
      rw [z, hd] at this
      cases this; cases h2
    rw [upd_ne z]
    exact R'.imm b o (by show upd F.H0 (m n) _ b = _; rw [upd_ne z]; exact h1) h2
  · by_cases z : b = m n
    · rw [z, upd_same]; simp
    · rw [upd_ne z]
      exact R'.dom b (by show upd F.H0 (m n) _ b ≠ _; rw [upd_ne z]; exact h)
  · by_cases z : b = m n
    · rw [z, upd_same]; simp
    · rw [upd_ne z]
      exact (R'.zd b h).1
  · rw [hl]
    by_cases a : i = n
    · subst a
      rw [List.getElem?_set_self hn'] at ei
      cases ei
      exact ⟨.dK us, by rw [em]; exact upd_same, .dK (Paired.mapP ro fun a b z => ⟨z.1, AVal0.unlkK hq hm z.2⟩)⟩
    · rw [List.getElem?_set_ne (Ne.symm a)] at ei
      obtain ⟨u', q1, q2⟩ := R'.sto i o ei
      have hi := (List.getElem?_eq_some_iff.mp ei).1
      refine ⟨u', ?_, AObj.unlkK hq hm (AObj.ground (F := F.lk (m n) (.frz ob (.dK us))) (F' := F) rfl (fun t a l _ => l) q2)⟩
      rw [upd_ne (fun z => a (R'.inj i n hi hn' (by rw [em]; exact z)))]
      exact q1
  · rw [hl]
    obtain ⟨v, q1, q2⟩ := R'.slo i x ei
    exact ⟨v, q1, AVal.unlkK hq hm (lk_vaK q2)⟩
theorem psa_lockK {s : Stmt} {dl : DS} (i : Nat) (h : PSA X c W s dl) : PSA X c W s (dLockK i dl) := (ps_lock h).imp fun D σ H ⟨F, m, st, S, hc, R, P⟩ => by
  unfold dLockK at P
  split at P
  · rename_i n _
    cases q : dctAtK st n with
    | none => rw [q] at P; exact P.elim
    | some kvs =>
      rw [q] at P
      simp only at P
      obtain ⟨hn, us, hu, ru⟩ := dctAtK_ok R q
      refine ⟨m n, .dK us, hu, True.intro, fun od => ?_⟩
      obtain ⟨w, R1⟩ := R.write (o := .lkK kvs) (u := .frz od (.dK us)) hn (.lkK ru) (nlK q)
      have hl : (st.set n (AO.lkK kvs)).length = st.length := List.length_set
      refine ⟨F.lk (m n) (.frz od (.dK us)), m, st.set n (.lkK kvs), S, hc, R1.lkFK upd_same, ?_⟩
      cases e : dl S (st.set n (.lkK kvs)) with
      | nx S' st' =>
        rw [e] at P
        simp only at P
        cases e2 : lkAtK st' n with
        | none => rw [e2] at P; exact P.elim
        | some kvs' =>
          rw [e2] at P
          intro m' σ' H' a b
          rw [hl] at a
          obtain ⟨u1, u2, u3, _⟩ := unlockK R hn hu a b e2
          exact ⟨u1, P m' σ' _ u2 u3⟩
      | rt x st' =>
        rw [e] at P
        simp only at P
        cases e2 : lkAtK st' n with
        | none => rw [e2] at P; exact P.elim
        | some kvs' =>
          rw [e2] at P
          intro m' v H' a b r
          rw [hl] at a
          obtain ⟨u1, u2, u3, u4⟩ := unlockK R hn hu a b e2
          exact ⟨u1, P m' v _ u2 u3 (u4 _ _ r)⟩
      | bk S' st' => rw [e] at P; exact P.elim
      | ct S' st' => rw [e] at P; exact P.elim
      | ex x S' st' => rw [e] at P; exact P.elim
      | bad => rw [e] at P; exact P.elim
  · exact P.elim
theorem keyPV_ok {L : Bool → Addr → Prop} : ∀ k : Key, Val c L H (keyPV k) (kV k)
  | .inl i => .int i
  | .inr z => .str z
theorem walk_keysKA {kvs : List (Key × AV)} (hl : kvs.map (·.1) = us.map (·.1)) : WalkA c (Itk d ob us) (kvs.map fun kv => .v (keyPV kv.1) false) (fun F m N H => H d = some (.frz ob (.dK us))) where
  stay := fun F m N H m' N' H' s h => s.imm _ _ h rfl
  av := fun F m N H a ha h => h
  over := fun F m N H D acc acc' hz hD h => by
    show upd H D _ d = _
    rw [upd_ne (fun z => by rw [← z, h] at hD; cases hD)]
    exact h
  stop := fun F m st S σ H hc R h => ⟨h, by
    have := congrArg List.length hl
    simp only [List.length_map] at this ⊢
    omega⟩
  go := fun F m st S σ H i x hc R h e => ⟨h, by
    have h1 := (List.getElem?_eq_some_iff.mp e).1
    have := congrArg List.length hl
    simp only [List.length_map] at this h1
    omega⟩
  yld := fun F m st S σ H i x v H' hc R h e y => by
    obtain ⟨rfl, k, u, h1, rfl⟩ := y
    refine ⟨fun b o h => h, ?_⟩
    rw [List.getElem?_map] at e
    have hk : (kvs.map (·.1))[i]? = some k := by rw [hl, List.getElem?_map, h1]; rfl
    rw [List.getElem?_map] at hk
    cases e2 : kvs[i]? with
    | none => rw [e2] at e; cases e
    | some kv =>
      rw [e2] at e hk
      cases e
      have hk : kv.1 = k := by simpa using hk
      show AVal F m st.length H' (.v (keyPV kv.1) false) _
      rw [hk]
      exact .v (keyPV_ok k) fun e => nomatch e
theorem pia_keysK {tg e : Expr} {de : DE} (he : PEA X c W e de) : PIA X c W tg e (dKeysK de) := (pi_keys he).imp fun σ H R ⟨F, m, s, S, hc, R0, P⟩ =>
  ⟨F, m, s, S, hc, R0, (PostI.bind P).imp fun v H1 ⟨m1, s1, x, _, a1, R1, r1, P1⟩ => by
    cases x with
    | v p fr => exact P1.elim
    | ref n =>
      cases r1 with
      | ref hn =>
      simp only at P1
      cases q : lkAtK s1 n with
      | none => rw [q] at P1; exact P1.elim
      | some kvs =>
        rw [q] at P1
        have e0 : s1[n]? = some (.lkK kvs) := by
          unfold lkAtK at q
          split at q
          · cases q; assumption
          · cases q
        obtain ⟨u, h1, h2⟩ := R1.sto n _ e0
        cases h2 with
        | lkK h2 =>
          exact ⟨_, _, rfl, .inl ⟨_, h1, PostI.here P1 R1 (walk_keysKA (by
            clear P1 h1 e0 q
            induction h2 with
            | nil => rfl
            | cons h t ih => simp only [List.map_cons, h.1, ih])) h1⟩⟩⟩
end
/-! ### sorted(d), the keys numbers -/
def keyInts : List (Key × AV) → Option (List Int)
  | [] => some []
  | (.inl i, _) :: r => (keyInts r).map (i :: ·)
  | _ :: _ => none
def fSortedDK (r : Bool) : List AV → Store → Res AV := fun xs st => match xs with
  | [.ref n] => match rdAtK st n with
    | some kvs => match keyInts kvs with
      | some ns => bif Nat.blt ns.length 64 then newL r ((sortI ns).map fun i => .v (.int i) false) st else .bad
      | none => .bad
    | none => .bad
  | _ => .bad
section
variable {X : Cx} {c : Ct} {W : WX}
theorem keyInts_ok : ∀ {kvs : List (Key × AV)} {ns : List Int}, keyInts kvs = some ns → kvs.map (·.1) = ns.map Sum.inl
  | [], _, e => by cases e; rfl
  | (.inr z, _) :: r, _, e => by cases e
  | (.inl i, y) :: r, ns, e => by
    unfold keyInts at e
    cases q : keyInts r with
    | none => rw [q] at e; cases e
    | some ms =>
      rw [q] at e
      cases e
      simp only [List.map_cons, keyInts_ok q]
theorem pk_keys {F : Fix} {m : Nat → Addr} {N : Nat} {H : Hp} {kvs : List (Key × AV)} {us : List (Key × V)} (h : PK F m N H kvs us) : kvs.map (·.1) = us.map (·.1) := by
  induction h with
  | nil => rfl
  | cons h t ih => simp only [List.map_cons, h.1, ih]
theorem cr_sortedDK (r : Bool) : CRok c (fun xs H Q => ∃ (a : Addr) (kvs : List (Key × V)) (ks : List Int), xs = [.ref a] ∧ Rd H a (.dK kvs) ∧ kvs.map (·.1) = ks.map Sum.inl ∧ ks.length < 64 ∧
    ∀ (ys : List Int) (p : Addr), ys.Perm ks → ys.Pairwise (· ≤ ·) → H p = none → Q (.ref p) (upd H p (.lst (ys.map V.int)))) (fSortedDK r) := by
  intro W F m st S σ H xs vs Q hc R rx P
  unfold fSortedDK at P
  split at P
  · rename_i n
    cases rx with
    | cons a t =>
    cases t
    cases a with
    | ref hn =>
    cases q : rdAtK st n with
    | none => rw [q] at P; exact P.elim
    | some kvs =>
      rw [q] at P
      simp only at P
      cases q2 : keyInts kvs with
      | none => rw [q2] at P; exact P.elim
      | some ns =>
        rw [q2] at P
        simp only at P
        cases q3 : Nat.blt ns.length 64 with
        | false => rw [q3] at P; exact P.elim
        | true =>
          rw [q3] at P
          obtain ⟨_, us, hu, ru⟩ := rdAtK_ok R q
          refine ⟨_, us, ns, rfl, hu, (pk_keys ru).symm.trans (keyInts_ok q2), by rw [Nat.blt_eq] at q3; exact q3, fun ys p h1 h2 hp => ?_⟩
          rw [sortI_uniq h1 h2]
          exact newL_ok R hp (ints0 _) P
  · exact P.elim
end
end A

/-! The A-layer, part 33: a try whose body raises nothing. -/
namespace A
open PySem PySem.Spec PyProof.Rows L2
def dThru (db : DS) : DS := fun S st => match db S st with
  | .ex _ _ _ => .bad
  | r => r
theorem Cn.nox {X : Cx} {c : Ct} (h : Cn X c) : Cn X.nox c := ⟨h.K, h.calm, h.nd, PassesOwn.never, h.room, h.no, h.tree, h.stk⟩
theorem Cg.nox {X : Cx} {g : Gd} (h : Cg X g) : Cg X.nox g := ⟨h.P, h.w, h.K, h.mg, h.base, h.calm, h.nd, PassesOwn.never, h.stk⟩
theorem psa_thru {X : Cx} {c : Ct} {W : WX} {body : List Stmt} {h₀ : ExceptHandler} {hs : List ExceptHandler} {pos : Pos} {db : DS} (hb : PSsA X.nox c W0 body db) : PSA X c W (.Try body (h₀ :: hs) [] [] pos) (dThru db) :=
  (ps_try_thru0 hb).imp fun D σ H ⟨F, m, s, S, hc, R, P⟩ => by
    refine ⟨F, m, s, S, hc, R, ?_⟩
    unfold dThru at P
    cases e : db S s with
    | ex er S1 s1 => rw [e] at P; exact P.elim
    | bad => rw [e] at P; exact P.elim
    | nx S1 s1 => rw [e] at P; exact P
    | bk S1 s1 => rw [e] at P; exact P
    | ct S1 s1 => rw [e] at P; exact P
    | rt y s1 => rw [e] at P; exact P
end A

/-! The A-layer, part 34: x == [], x != [], whatever the list holds. -/
namespace A
open PySem PySem.Spec PyProof.Rows L2
def rLen (b : Bool) (K : PySem.W.Frag) : R2 := fun x y H Q => ∃ p q xs ys, x = .ref p ∧ y = .ref q ∧ SqL K H p xs ∧ SqL K H q ys ∧ xs.length ≠ ys.length ∧ Q (.bl b) H
section
variable {X : Cx} {c : Ct}
theorem op_eqL (cn : Cn X c) : OpR X (compareOp .Eq) (rLen false X.K) := by
  intro pins s σ H x y v u Q I rx ry h
  obtain ⟨p, q, xs, ys, rfl, rfl, h1, h2, hl, k⟩ := h
  obtain rfl : v = Value.ref p := rx
  obtain rfl : u = Value.ref q := ry
  obtain ⟨is, r1, p1, _⟩ := I.list h1
  obtain ⟨js, r2, p2, _⟩ := I.list h2
  refine SeqAt.RcAt.lists_lengths p1.isList p2.isList ?_ (by have := cn.room.un; omega) _ _ _ _ ⟨.bl _, H, I, rfl, k⟩
  have e1 := r1.length
  have e2 := r2.length
  simp only [List.size_toArray, bne_iff_ne]
  omega
theorem op_neL (cn : Cn X c) : OpR X (compareOp .NotEq) (rLen true X.K) := by
  intro pins s σ H x y v u Q I rx ry h
  obtain ⟨p, q, xs, ys, rfl, rfl, h1, h2, hl, k⟩ := h
  obtain rfl : v = Value.ref p := rx
  obtain rfl : u = Value.ref q := ry
  obtain ⟨is, r1, p1, _⟩ := I.list h1
  obtain ⟨js, r2, p2, _⟩ := I.list h2
  refine SeqAt.RcNeAt.lists_lengths p1.isList p2.isList ?_ (by have := cn.room.un; omega) _ _ _ _ ⟨.bl _, H, I, rfl, k⟩
  have e1 := r1.length
  have e2 := r2.length
  simp only [List.size_toArray, bne_iff_ne]
  omega
def fEqN (neg : Bool) : AV → AV → Store → Res AV := fun x y st => match itemsOf st x, y with
  | some (_ :: _), .v (.lst _ []) _ => .ok (.v (.bl neg) false) st
  | _, _ => fEq neg x y st
theorem fEqN_ok {neg : Bool} {r : R2} (hf : R2ok c r (fEq neg)) : R2ok c (fun x y H Q => r x y H Q ∨ rLen neg c.K x y H Q) (fEqN neg) := by
  intro W F m st S σ H x y v w Q hc R rx ry P
  unfold fEqN at P
  split at P
  · rename_i z zs t fr e
    obtain ⟨a, vs, rfl, ha, rv⟩ := itemsOf_ok R rx e
    cases ry with
    | v h _ =>
      cases h with
      | lst hb l r0 =>
        cases r0
        refine .inr ⟨_, _, vs, [], rfl, rfl, .inl (.inl ha), .inl (.inl hb), ?_, PostE.here P R (.v (.bl _) fun e => nomatch e)⟩
        rw [← Paired.length rv]
        simp
  · exact .inl (hf W F m st S σ H _ _ v w Q hc R rx ry P)
theorem r2_eqN : R2ok c (fun x y H Q => rEqD c.K x y H Q ∨ rLen false c.K x y H Q) (fEqN false) := fEqN_ok r2_eq
theorem r2_neN : R2ok c (fun x y H Q => rNeD c.K x y H Q ∨ rLen true c.K x y H Q) (fEqN true) := fEqN_ok r2_ne
theorem op_eqN (cn : Cn X c) : OpR X (compareOp .Eq) (fun x y H Q => rEqD c.K x y H Q ∨ rLen false c.K x y H Q) := by
  rw [cn.K]
  exact (op_eqC cn).or (op_eqL cn)
theorem op_neN (cn : Cn X c) : OpR X (compareOp .NotEq) (fun x y H Q => rNeD c.K x y H Q ∨ rLen true c.K x y H Q) := by
  rw [cn.K]
  exact (op_neC cn).or (op_neL cn)
end
end A

/-! The A-layer, part 35: a list of the store is locked while it is walked beside another. -/
namespace A
open PySem PySem.Spec PyProof.Rows L2
def lkAtL (st : Store) (n : Nat) : Option (List AV) := match st[n]? with
  | some (.lkL xs) => some xs
  | _ => none
def dLockL (i : Nat) (d : DS) : DS := fun S st => match S[i]? with
  | some (some (.ref n)) => match lstAt st n with
    | some kvs => match d S (st.set n (.lkL kvs)) with
      | .nx S' st' => match lkAtL st' n with
        | some kvs' => .nx S' (st'.set n (.lst kvs'))
        | none => .bad
      | .rt x st' => match lkAtL st' n with
        | some kvs' => .rt x (st'.set n (.lst kvs'))
        | none => .bad
      | _ => .bad
    | none => .bad
  | _ => .bad
section
variable {X : Cx} {c : Ct} {W : WX} {F : Fix} {m m' : Nat → Addr} {N N' n : Nat} {H H' : Hp} {S : Slots} {σ : St} {st : Store} {d : Addr} {ob : Obj} {us : List V}
theorem lk_avL (hd : H d = some (.frz ob (.lst us))) {x : AV} {v : V} (h : AVal F m N H x v) : AVal (F.lk d (.frz ob (.lst us))) m N H x v := by
  cases h with
  | ref h => exact .ref h
  | v h f =>
    refine .v h fun e => ?_
    obtain ⟨t, xs, a, vs, e1, e2, h0, ha, r⟩ := f e
    refine ⟨t, xs, a, vs, e1, e2, ?_, ha, r⟩
    show upd F.H0 d _ a = none
    rw [upd_ne (fun z => by rw [z, hd] at ha; cases ha)]
    exact h0
theorem lk_vaL {x : AV} {v : V} (h : AVal (F.lk d (.frz ob (.lst us))) m N H x v) : AVal F m N H x v := by
  cases h with
  | ref h => exact .ref h
  | v h f =>
    refine .v h fun e => ?_
    obtain ⟨t, xs, a, vs, e1, e2, h0, ha, r⟩ := f e
    refine ⟨t, xs, a, vs, e1, e2, ?_, ha, r⟩
    have h0 : upd F.H0 d (.frz ob (.lst us)) a = none := h0
    by_cases z : a = d
    · rw [z, upd_same] at h0; cases h0
    · rwa [upd_ne z] at h0
theorem Rel.lkFL (R : Rel F m st S σ H) (hd : H d = some (.frz ob (.lst us))) : Rel (F.lk d (.frz ob (.lst us))) m st S σ H where
  inj := R.inj
  own := fun i hi => by
    by_cases z : m i = d
    · exact .inl (.inr z)
    · rcases R.own i hi with q | q
      · exact .inl (.inl q)
      · refine .inr ?_
        show upd F.H0 d _ (m i) = none
        rw [upd_ne z]; exact q
  tab := R.tab
  keep := fun b o h1 h2 nt => by
    have z : b ≠ d := fun z => h2 (.inr z)
    have h1 : upd F.H0 d _ b = some o := h1
    rw [upd_ne z] at h1
    exact R.keep b o h1 (fun q => h2 (.inl q)) nt
  imm := fun b o h1 h2 => by
    have h1 : upd F.H0 d _ b = some o := h1
    by_cases z : b = d
    · rw [z, upd_same] at h1; cases h1; rw [z]; exact hd
    · rw [upd_ne z] at h1; exact R.imm b o h1 h2
  dom := fun b h => by
    by_cases z : b = d
    · rw [z, hd]; simp
    · have h : upd F.H0 d _ b ≠ none := h
      rw [upd_ne z] at h; exact R.dom b h
  zd := R.zd
  sto := fun i o e => by
    obtain ⟨u, h1, h2⟩ := R.sto i o e
    exact ⟨u, h1, AObj.ground (F := F) (F' := F.lk d (.frz ob (.lst us))) rfl (fun t a l _ => l) h2⟩
  len := R.len
  slo := fun i x e => by
    obtain ⟨v, h1, h2⟩ := R.slo i x e
    exact ⟨v, h1, lk_avL hd h2⟩
mutual
theorem Val.unlkL {L : Bool → Addr → Prop} {nv : HO} (hd : ∀ o, H d = some o → o = .frz ob (.lst us)) (hL : ∀ t, ¬ L t d) : ∀ {p : PV} {v : V}, Val c L H p v → Val c L (upd H d nv) p v
  | _, _, .non => .non
  | _, _, .bl b => .bl b
  | _, _, .int i => .int i
  | _, _, .str x => .str x
  | _, _, .tup h r => .tup (by rw [upd_ne (fun z => by rw [z] at h; have := hd _ h; cases this)]; exact h) (Vls.unlkL hd hL r)
  | _, _, .lst h l r => .lst (by rw [upd_ne (fun z => hL _ (z ▸ l))]; exact h) l (Vls.unlkL hd hL r)
  | _, _, .dct h z l r => .dct (by rw [upd_ne (fun z => hL _ (z ▸ l))]; exact h) z l (Vls.unlkL hd hL r)
  | _, _, .obj h z l r => .obj (by rw [upd_ne (fun z => hL _ (z ▸ l))]; exact h) z l (Vls.unlkL hd hL r)
  | _, _, .scr h => .scr (by
    rcases h with ⟨o, h, l⟩ | h
    · exact .inl ⟨o, by rw [upd_ne (fun z => hL _ (z ▸ l))]; exact h, l⟩
    · exact .inr h)
  | _, _, .ty n => .ty n
  | _, _, .cls n => .cls n
  | _, _, .exn h => .exn (by rw [upd_ne (fun z => by rw [z] at h; have := hd _ h; cases this)]; exact h)
theorem Vls.unlkL {L : Bool → Addr → Prop} {nv : HO} (hd : ∀ o, H d = some o → o = .frz ob (.lst us)) (hL : ∀ t, ¬ L t d) : ∀ {p : List PV} {v : List V}, Vls c L H p v → Vls c L (upd H d nv) p v
  | _, _, .nil => .nil
  | _, _, .cons h r => .cons (Val.unlkL hd hL h) (Vls.unlkL hd hL r)
end
theorem AVal.unlkL {nv : HO} (hd : H d = some (.frz ob (.lst us))) (hm : ∀ t, ¬ Lw F m N t d) {x : AV} {v : V} (h : AVal F m N H x v) : AVal F m N (upd H d nv) x v := by
  have hd' : ∀ o, H d = some o → o = .frz ob (.lst us) := fun o e => by rw [hd] at e; cases e; rfl
  cases h with
  | ref h => exact .ref h
  | v h f =>
    refine .v (Val.unlkL hd' hm h) fun e => ?_
    obtain ⟨t, xs, a, vs, e1, e2, h0, ha, r⟩ := f e
    refine ⟨t, xs, a, vs, e1, e2, h0, ?_, Vls.unlkL hd' (fun t q => hm t q.1) r⟩
    rw [upd_ne (fun z => by rw [z, hd] at ha; cases ha)]
    exact ha
theorem AVal0.unlkL {nv : HO} (hd : H d = some (.frz ob (.lst us))) (hm : ∀ t, ¬ Lw F m N t d) {x : AV} {v : V} (h : AVal0 F m N H x v) : AVal0 F m N (upd H d nv) x v := by
  have hd' : ∀ o, H d = some o → o = .frz ob (.lst us) := fun o e => by rw [hd] at e; cases e; rfl
  cases h with
  | ref h => exact .ref h
  | v h => exact .v (Val.unlkL hd' hm h)
theorem AObj.unlkL {nv : HO} (hd : H d = some (.frz ob (.lst us))) (hm : ∀ t, ¬ Lw F m N t d) {o : AO} {u : HO} (h : AObj F m N H o u) : AObj F m N (upd H d nv) o u := by
  cases h with
  | lst h => exact .lst (Paired.mapP h fun _ _ => AVal0.unlkL hd hm)
  | dK h => exact .dK (Paired.mapP h fun a b z => ⟨z.1, AVal0.unlkL hd hm z.2⟩)
  | dT h => exact .dT (Paired.mapP h fun a b z => ⟨z.1, AVal0.unlkL hd hm z.2⟩)
  | lk h => exact .lk (Paired.mapP h fun a b z => ⟨z.1, AVal0.unlkL hd hm z.2⟩)
  | lkK h => exact .lkK (Paired.mapP h fun a b z => ⟨z.1, AVal0.unlkL hd hm z.2⟩)
  | lkL h => exact .lkL (Paired.mapP h fun _ _ => AVal0.unlkL hd hm)
  | ins h => exact .ins (Paired.mapP h fun a b z => ⟨z.1, AVal0.unlkL hd hm z.2⟩)
/-- the walk is over -/
theorem unlockL {st' : Store} {S' : Slots} {σ' : St} {kvs' : List AV} (R : Rel F m st S σ H) (hn : n < st.length) (hd : H (m n) = some (.lst us)) (s : Step m st.length (upd H (m n) (.frz ob (.lst us))) m' st'.length H') (R' : Rel (F.lk (m n) (.frz ob (.lst us))) m' st' S' σ' H') (e : lkAtL st' n = some kvs') :
    H' (m n) = some (.frz ob (.lst us)) ∧ Step m st.length H m' (st'.set n (.lst kvs')).length (upd H' (m n) (.lst us)) ∧ Rel F m' (st'.set n (.lst kvs')) S' σ' (upd H' (m n) (.lst us)) ∧ ∀ x v, AVal (F.lk (m n) (.frz ob (.lst us))) m' st'.length H' x v → AVal F m' (st'.set n (.lst kvs')).length (upd H' (m n) (.lst us)) x v := by
  have hq : H' (m n) = some (.frz ob (.lst us)) := R'.imm _ _ (show upd F.H0 (m n) _ (m n) = _ from upd_same) rfl
  have hn' : n < st'.length := Nat.lt_of_lt_of_le hn s.le
  have em : m' n = m n := s.same n hn
  have e0 : st'[n]? = some (.lkL kvs') := by
    unfold lkAtL at e
    split at e
    · cases e; assumption
    · cases e
  have ro : AVls0 F m' st'.length H' kvs' us := by
    obtain ⟨u, h1, h2⟩ := R'.sto n _ e0
    rw [em, hq] at h1
    cases h1
    have h2 := AObj.ground (F := F.lk (m n) (.frz ob (.lst us))) (F' := F) rfl (fun t a l _ => l) h2
    cases h2 with
    | lkL h => exact h
  have hm : ∀ t, ¬ Lw F m' st'.length t (m n) := fun t q => q.2.2 n hn' em
  have hl : (st'.set n (AO.lst kvs')).length = st'.length := List.length_set
  have hb : ∀ b, b ≠ m n → upd H (m n) (HO.frz ob (.lst us)) b = H b := fun b z => upd_ne z
  rw [hl]
  refine ⟨hq, ⟨s.le, s.same, fun i h1 h2 => ?_, fun b o h k nt => ?_, fun b h => ?_, fun b o h q => ?_⟩, ?_, fun x v h => AVal.unlkL hq hm (lk_vaL h)⟩
  · have := s.new i h1 h2
    by_cases z : m' i = m n
    · rw [z, upd_same] at this; cases this
    · rwa [upd_ne z] at this
  · have z : b ≠ m n := fun z => k n hn z.symm
    rw [upd_ne z]
    exact s.keep b o (by rw [upd_ne z]; exact h) k nt
  · by_cases z : b = m n
    · rw [z, upd_same]; simp
    · rw [upd_ne z]
      exact s.dom b (by rw [upd_ne z]; exact h)
  · have z : b ≠ m n := fun z => by rw [z, hd] at h; cases h; cases q
    rw [upd_ne z]
    exact s.imm b o (by rw [upd_ne z]; exact h) q
  refine ⟨fun i j hi hj => R'.inj i j (by simpa using hi) (by simpa using hj), fun i hi => ?_, fun b o h1 h2 nt => ?_, fun b o h1 h2 => ?_, fun b h => ?_, fun b h => ⟨?_, fun i hi => (R'.zd b h).2 i (by simpa using hi)⟩, fun i o ei => ?_, R'.len, fun i x ei => ?_, tabs_upd0 R'.tab hq rfl fun c q z => by cases z⟩
  · rw [hl] at hi
    by_cases z : m' i = m n
    · rw [z]; exact R.own n hn
    · rcases R'.own i hi with q | q
      · rcases q with q | q
        · exact .inl q
        · exact absurd q z
      · have q : upd F.H0 (m n) _ (m' i) = none := q
        rw [upd_ne z] at q
        exact .inr q
  · have z : b ≠ m n := fun z => by
      rcases R.own n hn with q | q
      · exact h2 (z ▸ q)
      · rw [z, q] at h1; cases h1
    rw [upd_ne z]
    exact R'.keep b o (by show upd F.H0 (m n) _ b = _; rw [upd_ne z]; exact h1) (fun q => q.elim h2 z) nt
  · have z : b ≠ m n := fun z => by
      have := R.imm b o h1 h2
      rw [z, hd] at this
      cases this; cases h2
    rw [upd_ne z]
    exact R'.imm b o (by show upd F.H0 (m n) _ b = _; rw [upd_ne z]; exact h1) h2
  · by_cases z : b = m n
    · rw [z, upd_same]; simp
    · rw [upd_ne z]
      exact R'.dom b (by show upd F.H0 (m n) _ b ≠ _; rw [upd_ne z]; exact h)
  · by_cases z : b = m n
    · rw [z, upd_same]; simp
    · rw [upd_ne z]
      exact (R'.zd b h).1
  · rw [hl]
    by_cases a : i = n
    · subst a
      rw [List.getElem?_set_self hn'] at ei
      cases ei
      exact ⟨.lst us, by rw [em]; exact upd_same, .lst (Paired.mapP ro fun _ _ => AVal0.unlkL hq hm)⟩
    · rw [List.getElem?_set_ne (Ne.symm a)] at ei
      obtain ⟨u', q1, q2⟩ := R'.sto i o ei
      have hi := (List.getElem?_eq_some_iff.mp ei).1
      refine ⟨u', ?_, AObj.unlkL hq hm (AObj.ground (F := F.lk (m n) (.frz ob (.lst us))) (F' := F) rfl (fun t a l _ => l) q2)⟩
      rw [upd_ne (fun z => a (R'.inj i n hi hn' (by rw [em]; exact z)))]
      exact q1
  · rw [hl]
    obtain ⟨v, q1, q2⟩ := R'.slo i x ei
    exact ⟨v, q1, AVal.unlkL hq hm (lk_vaL q2)⟩
theorem psa_lockL {s : Stmt} {dl : DS} (i : Nat) (h : PSA X c W s dl) : PSA X c W s (dLockL i dl) := (ps_lock h).imp fun D σ H ⟨F, m, st, S, hc, R, P⟩ => by
  unfold dLockL at P
  split at P
  · rename_i n _
    cases q : lstAt st n with
    | none => rw [q] at P; exact P.elim
    | some kvs =>
      rw [q] at P
      simp only at P
      obtain ⟨hn, us, hu, ru⟩ := lstAt_ok R q
      refine ⟨m n, .lst us, hu, True.intro, fun od => ?_⟩
      obtain ⟨w, R1⟩ := R.write (o := .lkL kvs) (u := .frz od (.lst us)) hn (.lkL ru) (nl q)
      have hl : (st.set n (AO.lkL kvs)).length = st.length := List.length_set
      refine ⟨F.lk (m n) (.frz od (.lst us)), m, st.set n (.lkL kvs), S, hc, R1.lkFL upd_same, ?_⟩
      cases e : dl S (st.set n (.lkL kvs)) with
      | nx S' st' =>
        rw [e] at P
        simp only at P
        cases e2 : lkAtL st' n with
        | none => rw [e2] at P; exact P.elim
        | some kvs' =>
          rw [e2] at P
          intro m' σ' H' a b
          rw [hl] at a
          obtain ⟨u1, u2, u3, _⟩ := unlockL R hn hu a b e2
          exact ⟨u1, P m' σ' _ u2 u3⟩
      | rt x st' =>
        rw [e] at P
        simp only at P
        cases e2 : lkAtL st' n with
        | none => rw [e2] at P; exact P.elim
        | some kvs' =>
          rw [e2] at P
          intro m' v H' a b r
          rw [hl] at a
          obtain ⟨u1, u2, u3, u4⟩ := unlockL R hn hu a b e2
          exact ⟨u1, P m' v _ u2 u3 (u4 _ _ r)⟩
      | bk S' st' => rw [e] at P; exact P.elim
      | ct S' st' => rw [e] at P; exact P.elim
      | ex x S' st' => rw [e] at P; exact P.elim
      | bad => rw [e] at P; exact P.elim
  · exact P.elim
end
end A

/-! The A-layer, part 36: zip, reversed, enumerate where a list of the store is locked. -/
namespace A
open PySem PySem.Spec PyProof.Rows L2
def seqS (st : Store) : AV → Option (Bool × List PV)
  | .ref n => (lkAtL st n).bind fun xs => (toPs xs).map fun ps => (true, ps)
  | x => seqP x
def dRevdL (de : DE) : DA := fun S st => (de S st).then fun x st1 => match seqS st1 x with
  | some (_, ps) => .ok (pvs ps.reverse) st1
  | none => .bad
def dZipL (da : DA) : DA := fun S st => (da S st).then fun xs st1 => match xs with
  | [x, y] => match seqS st1 x, seqS st1 y with
    | some (true, ps), some (true, qs) => .ok (zipP ps qs) st1
    | some (false, ps), some (false, qs) => .ok (zipP ps qs) st1
    | _, _ => .bad
  | _ => .bad
def dEnumL (da : DA) : DA := fun S st => (da S st).then fun xs st1 => match xs with
  | [x] => match seqS st1 x with
    | some (_, ps) => .ok (enumP 0 ps) st1
    | none => .bad
  | _ => .bad
section
variable {X : Cx} {c : Ct} {W : WX} {tg e e2 : Expr} {es : List Expr} {de : DE} {da : DA} {p pos : Pos}
theorem seqS_ok {F : Fix} {m : Nat → Addr} {H : Hp} {S : Slots} {σ : St} {st : Store} {x : AV} {v : V} {k : Bool} {ps : List PV} (R : Rel F m st S σ H) (hc : F.c = c) (h : AVal F m st.length H x v) (e : seqS st x = some (k, ps)) : ∃ a, v = .ref a ∧ (if k then LA c a ps F m st.length H else TpA c a ps F m st.length H) := by
  cases x with
  | v p fr => exact seqP_ok hc h e
  | ref n =>
    cases h with
    | ref hn =>
      have e : (lkAtL st n).bind (fun xs => (toPs xs).map fun ps => (true, ps)) = some (k, ps) := e
      cases q : lkAtL st n with
      | none => rw [q] at e; cases e
      | some xs =>
        rw [q] at e
        cases q2 : toPs xs with
        | none => simp [q2] at e
        | some qs =>
          simp [q2] at e
          obtain ⟨rfl, rfl⟩ := e
          have e0 : st[n]? = some (.lkL xs) := by
            unfold lkAtL at q
            split at q
            · cases q; assumption
            · cases q
          obtain ⟨u, h1, h2⟩ := R.sto n _ e0
          cases h2 with
          | lkL h2 => exact ⟨_, rfl, .frz hc h1 (toPs_ok h2 q2)⟩
theorem pia_revL (hK : c.K = X.K) (hm : X.mg "reversed" = none) (he : PEA X c W e de) (hg : Gl X "reversed" := by rfl) (hs : starEach [e] X.env = (false, eval e X.env) :: starEach [] X.env := by rfl) : PIA X c W tg (.Call (.Name "reversed" p) [e] [] pos) (dRevdL de) :=
  (RT.pi_revA hg hm he hs).imp fun σ H R ⟨F, m, s, S, hc, R0, P⟩ => ⟨F, m, s, S, hc, R0, (PostI.bind P).imp fun v H1 ⟨m1, s1, x, _, a1, R1, r1, P1⟩ => by
    rw [← hK]
    cases q : seqS s1 x with
    | none => rw [q] at P1; exact P1.elim
    | some kp =>
      obtain ⟨k, ps⟩ := kp
      rw [q] at P1
      obtain ⟨a, rfl, h⟩ := seqS_ok R1 hc r1 q
      cases k with
      | true =>
        have h : LA c a ps F m1 s1.length H1 := h
        obtain ⟨vs, h1, h2⟩ := h.sq
        exact ⟨a, vs, rfl, .inl ⟨h1, by rw [← Vls.length h2]; exact PostI.here P1 R1 walk_rev h⟩⟩
      | false =>
        have h : TpA c a ps F m1 s1.length H1 := h
        obtain ⟨vs, h0, h1, h2⟩ := h.at_
        exact ⟨a, vs, rfl, .inr ⟨h1, by rw [← Vls.length h2]; exact PostI.here P1 R1 walk_revT h⟩⟩⟩
theorem pia_zipL {elts : List Expr} {kk} {tpos : Pos} (hK : c.K = X.K) (hm : X.mg "zip" = none) (he : PAA X c W [e, e2] da) (hg : Gl X "zip" := by rfl) (hs : starEach [e, e2] X.env = (false, eval e X.env) :: starEach [e2] X.env := by rfl) (hpl : (backTo pos (starEach [e2] X.env)).any (·.1) = false := by rfl) : PIA X c W (.Tuple elts kk tpos) (.Call (.Name "zip" p) [e, e2] [] pos) (dZipL da) :=
  (RZ.pi_zipA hg hm he hs hpl).imp fun σ H R ⟨F, m, s, S, hc, R0, P⟩ => ⟨F, m, s, S, hc, R0, (PostI.bind P).imp fun v H1 ⟨m1, s1, xs, _, a1, R1, r1, P1⟩ => by
    rw [← hK]
    split at P1
    · rename_i x y
      cases r1 with
      | cons r1 t =>
      cases t with
      | cons r2 t =>
      cases t
      split at P1
      · rename_i ps qs q1 q2
        obtain ⟨a, rfl, h⟩ := seqS_ok R1 hc r1 q1
        obtain ⟨b, rfl, h'⟩ := seqS_ok R1 hc r2 q2
        have h : LA c a ps F m1 s1.length H1 := h
        have h' : LA c b qs F m1 s1.length H1 := h'
        obtain ⟨vs, h1, h2⟩ := h.sq
        obtain ⟨us, h3, h4⟩ := h'.sq
        exact ⟨a, b, vs, us, rfl, .inl ⟨h1, h3, PostI.here P1 R1 walk_zip ⟨h, h'⟩⟩⟩
      · rename_i ps qs q1 q2
        obtain ⟨a, rfl, h⟩ := seqS_ok R1 hc r1 q1
        obtain ⟨b, rfl, h'⟩ := seqS_ok R1 hc r2 q2
        have h : TpA c a ps F m1 s1.length H1 := h
        have h' : TpA c b qs F m1 s1.length H1 := h'
        obtain ⟨vs, _, h1, h2⟩ := h.at_
        obtain ⟨us, _, h3, h4⟩ := h'.at_
        exact ⟨a, b, vs, us, rfl, .inr ⟨h1, h3, PostI.here P1 R1 walk_zipT ⟨h, h'⟩⟩⟩
      · exact P1.elim
    · exact P1.elim⟩
theorem pia_enumL {elts : List Expr} {kk} {tpos : Pos} (hK : c.K = X.K) (hm : X.mg "enumerate" = none) (he : PAA X c W [e] da) (hg : Gl X "enumerate" := by rfl) (hs : starEach [e] X.env = [(false, eval e X.env)] := by rfl) : PIA X c W (.Tuple elts kk tpos) (.Call (.Name "enumerate" p) [e] [] pos) (dEnumL da) :=
  (pi_enum2 hg hm he hs).imp fun σ H R ⟨F, m, s, S, hc, R0, P⟩ => ⟨F, m, s, S, hc, R0, (PostI.bind P).imp fun v H1 ⟨m1, s1, xs, _, a1, R1, r1, P1⟩ => by
    rw [← hK]
    split at P1
    · rename_i x
      cases r1 with
      | cons r1 t =>
      cases t
      split at P1
      · rename_i k ps q
        obtain ⟨a, rfl, h⟩ := seqS_ok R1 hc r1 q
        cases k with
        | true =>
          have h : LA c a ps F m1 s1.length H1 := h
          obtain ⟨vs, h1, h2⟩ := h.sq
          exact ⟨a, rfl, .inl ⟨⟨vs, h1⟩, PostI.here P1 R1 walk_enum h⟩⟩
        | false =>
          have h : TpA c a ps F m1 s1.length H1 := h
          obtain ⟨vs, h0, h1, h2⟩ := id h
          exact ⟨a, rfl, .inr ⟨⟨vs, h1⟩, PostI.here P1 R1 walk_enumT h⟩⟩
      · exact P1.elim
    · exact P1.elim⟩
end
end A

/-! plain lemmas for the laws' sides: sizes of ints -/
namespace A
open PySem PySem.Spec PyProof.Rows L2
/-- at most n bits -/
def Sz (n : Nat) (i : Int) : Prop := i.natAbs < 2 ^ n
theorem Sz.mono {a b : Nat} {i : Int} (h : Sz a i) (l : a ≤ b) : Sz b i := Nat.lt_of_lt_of_le h (Nat.pow_le_pow_right (by decide) l)
theorem Sz.mul {a b : Nat} {i j : Int} (h : Sz a i) (k : Sz b j) : Sz (a + b) (i * j) := by
  unfold Sz at *
  rw [Int.natAbs_mul, Nat.pow_add]
  exact Nat.mul_lt_mul'' h k
theorem Sz.add {a : Nat} {i j : Int} (h : Sz a i) (k : Sz a j) : Sz (a + 1) (i + j) := by
  unfold Sz at *
  have := Int.natAbs_add_le i j
  rw [Nat.pow_succ]
  omega
theorem Sz.sub {a : Nat} {i j : Int} (h : Sz a i) (k : Sz a j) : Sz (a + 1) (i - j) := by
  unfold Sz at *
  have := Int.natAbs_sub_le i j
  rw [Nat.pow_succ]
  omega
theorem Sz.addS {a b : Nat} {i j : Int} (h : Sz a i) (k : Sz b j) : Sz (a + b + 1) (i + j) := (h.mono (Nat.le_add_right a b)).add (k.mono (Nat.le_add_left b a))
theorem Sz.subS {a b : Nat} {i j : Int} (h : Sz a i) (k : Sz b j) : Sz (a + b + 1) (i - j) := (h.mono (Nat.le_add_right a b)).sub (k.mono (Nat.le_add_left b a))
theorem Sz.of_le {a : Nat} {i j : Int} (h : Sz a i) (k : j.natAbs ≤ i.natAbs) : Sz a j := Nat.lt_of_le_of_lt k h
theorem Sz.lit {n : Nat} {i : Int} (h : Nat.blt i.natAbs (2 ^ n) = true := by decide) : Sz n i := by
  unfold Sz
  have h2 : i.natAbs + 1 ≤ 2 ^ n := by simpa [Nat.blt] using h
  exact h2
theorem Sz.l160 {i : Int} (h : Nat.blt i.natAbs (2 ^ 160) = true) : Sz 160 i := .lit h
theorem Sz.log {a : Nat} {i : Int} (h : Sz a i) : i.natAbs.log2 ≤ a := by
  by_cases z : i.natAbs = 0
  · rw [z]; simp
  · exact Nat.le_of_lt ((Nat.log2_lt z).mpr h)
theorem mulC_of {a b : Nat} {i j : Int} (h : Sz a i) (k : Sz b j) (l : a + b < 100000000 := by decide) : mulC i j = true := by
  unfold mulC
  have := h.log
  have := k.log
  exact decide_eq_true (by omega)
theorem fmod_pos {i j : Int} (h : 0 < j) : 0 ≤ i.fmod j ∧ i.fmod j < j := ⟨Int.fmod_nonneg_of_pos _ h, Int.fmod_lt_of_pos _ h⟩
theorem kB_ii : kitB "int" "int" = some true := by decide +kernel
theorem kB_ib : kitB "int" "bool" = some false := by decide +kernel
theorem kB_bb : kitB "bool" "bool" = some true := by decide +kernel
theorem kB_bi : kitB "bool" "int" = some true := by decide +kernel
theorem kB_tt : kitB "tuple" "tuple" = some true := by decide +kernel
theorem kB_ll : kitB "list" "list" = some true := by decide +kernel
theorem kB_ss : kitB "str" "str" = some true := by decide +kernel
theorem kB_dd : kitB "dict" "dict" = some true := by decide +kernel
theorem dSeq_assoc (a b c : DS) : dSeq (dSeq a b) c = dSeq a (dSeq b c) := by
  funext S st
  unfold dSeq
  cases a S st <;> rfl
def okF (r : A.Flow) : Bool := match r with
  | .rt (.v (.bl true) _) _ => true
  | _ => false
theorem okF_run {N : Nat} {d : DS} {ps : List PV} (h : okF (d (slots0 N (ps.map (AV.v · false))) []) = true) : ∃ fr, runP N d ps = .ok (.bl true) fr := by
  unfold okF at h
  unfold runP
  split at h
  · rename_i fr st e
    rw [e]
    exact ⟨fr, rfl⟩
  · cases h
def slotsOf (r : A.Flow) : Slots := match r with
  | .nx S _ => S
  | _ => []
/-- the slots as they stand, the first one named -/
def hold8 (a : Option AV) (r : A.Flow) : A.Flow := .nx [a, (slotsOf r).getD 1 none, (slotsOf r).getD 2 none, (slotsOf r).getD 3 none, (slotsOf r).getD 4 none, (slotsOf r).getD 5 none, (slotsOf r).getD 6 none, (slotsOf r).getD 7 none] []
theorem whole_nat {i : Int} {n : Nat} (h0 : 0 ≤ i) (h1 : i < n) : ∃ k : Nat, i = k ∧ k < n := ⟨i.toNat, by omega, by omega⟩
end A

/-! plain lemmas: a denotation step by step -/
namespace A
open PySem PySem.Spec PyProof.Rows L2
theorem dSeq_nx {a b : DS} {S S1 : Slots} {st st1 : Store} (h : a S st = .nx S1 st1) : dSeq a b S st = b S1 st1 := by
  unfold dSeq
  rw [h]
theorem dSet_ok {i : Nat} {de : DE} {S : Slots} {st st1 : Store} {x : AV} (h : de S st = .ok x st1) : dSet i de S st = .nx (S.set i (some x)) st1 := by
  unfold dSet
  rw [h]
  rfl
theorem dFor_at {it : DA} {tg : DG} {b : DS} {S : Slots} {st st1 : Store} {xs : List AV} (h : it S st = .ok xs st1) : dFor it tg b S st = forL tg b xs S st1 := by
  unfold dFor
  rw [h]
  rfl
theorem dRet_ok {de : DE} {S : Slots} {st st1 : Store} {x : AV} (h : de S st = .ok x st1) : dRet de S st = .rt x st1 := by
  unfold dRet
  rw [h]
  rfl
theorem runI_rt {N : Nat} {d : DS} {xs : List AV} {st st1 : Store} {x : AV} (h : d (slots0 N xs) st = .rt x st1) : runI N d xs st = .ok x st1 := by
  unfold runI
  rw [h]
theorem range1_at {da : DA} {S : Slots} {st st1 : Store} {n : Nat} {fr : Bool} (h : da S st = .ok [.v (.int (n : Int)) fr] st1) (b : bnd n = true) : dRange1 da S st = .ok (rangeL 0 n) st1 := by
  have e : asI1 [.v (.int (n : Int)) fr] = some (n : Int) := rfl
  simp only [dRange1, h, Res.then, e, b, cond_true, Int.toNat_natCast]
theorem comp_v {vs : List Nat} {it : DA} {tg : DG} {t : DT} {e : DE} {S : Slots} {st st1 st2 : Store} {xs ys : List AV} {ps : List PV} (h1 : it S st = .ok xs st1) (h2 : compL tg t e (wipeS S vs) xs st1 = .ok ys st2) (h3 : ys.length ≤ 1000000) (h4 : toPs ys = some ps) : dComp false vs it tg t e S st = .ok (.v (.lst true ps) true) st2 := by
  have h5 : Nat.ble ys.length 1000000 = true := Nat.ble_eq.mpr h3
  unfold dComp
  rw [h1]
  show ((noEx (compL tg t e (wipeS S vs) xs st1)).then _) = _
  rw [h2]
  show (bif Nat.ble ys.length 1000000 then newL false ys st2 else .bad) = _
  rw [h5]
  show newL false ys st2 = _
  unfold newL
  rw [h4]
  rfl
theorem pop_at {st : Store} {n : Nat} {xs : List AV} {i : Int} {k : Nat} {y : AV} {fr : Bool} (h1 : lstAt st n = some xs) (h2 : bnd i = true) (h3 : L2.ixN xs.length i = some k) (h4 : xs[k]? = some y) : fPopAt (.ref n) [.v (.int i) fr] st = putL n (xs.eraseIdx k) (A.strip y) st := by
  unfold fPopAt
  simp only [h1]
  rw [h2]
  simp only [cond_true, h3, h4]
theorem dIf_t {t : DT} {a b : DS} {S : Slots} {st st1 : Store} (h : t S st = .ok true st1) : dIf t a b S st = a S st1 := by
  unfold dIf
  rw [h]
  rfl
theorem dIf_f {t : DT} {a b : DS} {S : Slots} {st st1 : Store} (h : t S st = .ok false st1) : dIf t a b S st = b S st1 := by
  unfold dIf
  rw [h]
  rfl
theorem dExpr_ok {de : DE} {S : Slots} {st st1 : Store} {x : AV} (h : de S st = .ok x st1) : dExpr de S st = .nx S st1 := by
  unfold dExpr
  rw [h]
  rfl
theorem dMeth_ok {f : AV → List AV → Store → Res AV} {de : DE} {da : DA} {S : Slots} {st st1 st2 st3 : Store} {x y : AV} {xs : List AV} (h1 : de S st = .ok x st1) (h2 : isLst st1 x = true) (h3 : da S st1 = .ok xs st2) (h4 : f x xs st2 = .ok y st3) : dMeth f de da S st = .ok y st3 := by
  unfold dMeth
  rw [h1]
  show (bif isLst st1 x then (da S st1).then fun xs st2 => f x xs st2 else .bad) = _
  rw [h2]
  show ((da S st1).then fun xs st2 => f x xs st2) = _
  rw [h3]
  exact h4
theorem dCallI_ok {k : Nat} {den : IDen} {da : DA} {S : Slots} {st st1 st2 : Store} {xs : List AV} {y : AV} (h1 : da S st = .ok xs st1) (h2 : Nat.beq xs.length k = true) (h3 : den xs st1 = .ok y st2) : dCallI k den da S st = .ok y st2 := by
  show ((da S st).then fun xs st1 => bif Nat.beq xs.length k then den xs st1 else .bad) = _
  rw [h1]
  show (bif Nat.beq xs.length k then den xs st1 else .bad) = _
  rw [h2]
  exact h3
theorem dCall_ok {k : Nat} {den : PDen} {da : DA} {S : Slots} {st st1 : Store} {xs : List AV} {y : AV} (h1 : da S st = .ok xs st1) (h2 : Nat.beq xs.length k = true) (h3 : callP den xs st1 = .ok y st1) : dCall k den da S st = .ok y st1 := dCallI_ok (den := callP den) h1 h2 h3
theorem compL_map {tg : DG} {e : DE} {S0 : Slots} {st : Store} {f : AV → AV} : ∀ xs : List AV, (∀ x ∈ xs, ∃ S1, tg x S0 = some S1 ∧ e S1 st = .ok (f x) st) → compL tg dYes e S0 xs st = .ok (xs.map f) st
  | [], _ => rfl
  | x :: xs, h => by
    obtain ⟨S1, h1, h2⟩ := h x List.mem_cons_self
    have := compL_map xs fun y hy => h y (List.mem_cons_of_mem _ hy)
    simp [compL, h1, h2, dYes, Res.then, this]
theorem optAll_map {α : Type} (f : α → Option PV) (g : α → PV) : ∀ l : List α, (∀ x ∈ l, f x = some (g x)) → optAll (l.map f) = some (l.map g)
  | [], _ => rfl
  | x :: l, h => by
    rw [List.map_cons, h x List.mem_cons_self]
    show (optAll (l.map f)).map (g x :: ·) = _
    rw [optAll_map f g l fun y hy => h y (List.mem_cons_of_mem _ hy)]
    rfl
theorem optAll_pair {α β : Type} {P : α → β → Prop} (f : α → Option PV) (g : β → PV) (h : ∀ a b, P a b → f a = some (g b)) : ∀ {l : List α} {r : List β}, Paired P l r → optAll (l.map f) = some (r.map g)
  | _, _, .nil => rfl
  | _, _, .cons a t => by
    rw [List.map_cons, h _ _ a]
    show (optAll (_)).map (_ :: ·) = _
    rw [optAll_pair f g h t]
    rfl
theorem toInts_map : ∀ ws : List Int, toInts (ws.map ((fun x => AV.v x false) ∘ PV.int)) = some ws
  | [] => rfl
  | w :: ws => by rw [List.map_cons]; show (toInts (ws.map ((fun x => AV.v x false) ∘ PV.int))).map (w :: ·) = _; rw [toInts_map ws]; rfl
theorem compE_ref {vs : List Nat} {di : DE} {tg : DG} {t : DT} {e : DE} {S : Slots} {st st1 st2 : Store} {n : Nat} {ys : List AV} {ps : List PV} (h1 : di S st = .ok (.ref n) st1) (h2 : compR n tg t e (wipeS S vs) (turnsAt st1 n) 0 st1 = .ok ys st2) (h3 : ys.length ≤ 1000000) (h4 : toPs ys = some ps) : dCompE false vs di tg t e S st = .ok (.v (.lst true ps) true) st2 := by
  have h5 : Nat.ble ys.length 1000000 = true := Nat.ble_eq.mpr h3
  unfold dCompE
  rw [h1]
  show ((noEx (compR n tg t e (wipeS S vs) (turnsAt st1 n) 0 st1)).then _) = _
  rw [h2]
  show (bif Nat.ble ys.length 1000000 then newL false ys st2 else .bad) = _
  rw [h5]
  show newL false ys st2 = _
  unfold newL
  rw [h4]
  rfl
theorem toPs_pvs (ps : List PV) : toPs (ps.map (AV.v · false)) = some ps := by
  induction ps with
  | nil => rfl
  | cons p ps ih => rw [List.map_cons, toPs, ih]; rfl
theorem pairedMk {α β : Type} {P : α → β → Prop} : ∀ {xs : List α} {ys : List β}, xs.length = ys.length → (∀ i (h : i < xs.length) (h' : i < ys.length), P xs[i] ys[i]) → Paired P xs ys
  | [], [], _, _ => .nil
  | x :: xs, y :: ys, l, h => .cons (h 0 (by simp) (by simp)) (pairedMk (by simpa using l) fun i a b => h (i + 1) (by simpa using a) (by simpa using b))
theorem dSeq_rt {a b : DS} {S : Slots} {st st1 : Store} {x : AV} (h : a S st = .rt x st1) : dSeq a b S st = .rt x st1 := by
  unfold dSeq
  rw [h]
theorem dSeq_ex {a b : DS} {S S1 : Slots} {st st1 : Store} {e : AE} (h : a S st = .ex e S1 st1) : dSeq a b S st = .ex e S1 st1 := by
  unfold dSeq
  rw [h]
theorem runP_v {N : Nat} {d : DS} {ps : List PV} {st1 : Store} {p : PV} {fr : Bool} (h : d (slots0 N (ps.map (AV.v · false))) [] = .rt (.v p fr) st1) : runP N d ps = .ok p fr := by
  unfold runP
  rw [h]
  rfl
theorem compE_at {r : Bool} {vs : List Nat} {di : DE} {tg : DG} {t : DT} {e : DE} {S : Slots} {st st1 st2 : Store} {p : PV} {fr : Bool} {xs ys : List AV} (h1 : di S st = .ok (.v p fr) st1) (h0 : itemsV (.v p fr) = some xs) (h2 : compL tg t e (wipeS S vs) xs st1 = .ok ys st2) (h3 : ys.length ≤ 1000000) : dCompE r vs di tg t e S st = newL r ys st2 := by
  have h5 : Nat.ble ys.length 1000000 = true := Nat.ble_eq.mpr h3
  unfold dCompE
  rw [h1]
  show (match itemsV (.v p fr) with
    | some xs => (noEx (compL tg t e (wipeS S vs) xs st1)).then fun ys st2 => bif Nat.ble ys.length 1000000 then newL r ys st2 else .bad
    | none => .bad) = _
  rw [h0]
  show ((noEx (compL tg t e (wipeS S vs) xs st1)).then _) = _
  rw [h2]
  show (bif Nat.ble ys.length 1000000 then newL r ys st2 else .bad) = _
  rw [h5]
  rfl
theorem newL_false {ys : List AV} {ps : List PV} {st : Store} (h : toPs ys = some ps) : newL false ys st = .ok (.v (.lst true ps) true) st := by
  unfold newL
  rw [h]
  rfl
theorem newL_true {ys : List AV} {st : Store} : newL true ys st = .ok (.ref st.length) (st ++ [.lst (ys.map A.strip)]) := rfl
theorem strip_pvs (ps : List PV) : (ps.map (AV.v · false)).map A.strip = ps.map (AV.v · false) := by
  rw [List.map_map]; rfl
theorem dCons_ok {de : DE} {da : DA} {S : Slots} {st st1 st2 : Store} {x : AV} {xs : List AV} (h1 : de S st = .ok x st1) (h2 : da S st1 = .ok xs st2) : dCons de da S st = .ok (x :: xs) st2 := by
  unfold dCons
  rw [h1]
  show ((da S st1).then _) = _
  rw [h2]
  rfl
theorem dB1_ok {f : List AV → Store → Res AV} {da : DA} {S : Slots} {st st1 : Store} {xs : List AV} {r : Res AV} (h1 : da S st = .ok xs st1) (h2 : f xs st1 = r) : dB1 f da S st = r := by
  unfold dB1
  rw [h1]
  exact h2
theorem dTup_ok {da : DA} {S : Slots} {st st1 : Store} {xs : List AV} {ps : List PV} (h1 : da S st = .ok xs st1) (h2 : toPs xs = some ps) (h3 : ps.length ≤ 1000000) : dTup da S st = .ok (.v (.tup ps) false) st1 := by
  have h5 : Nat.ble ps.length 1000000 = true := Nat.ble_eq.mpr h3
  unfold dTup
  rw [h1]
  show (match toPs xs with
    | some ps => bif Nat.ble ps.length 1000000 then Res.ok (AV.v (.tup ps) false) st1 else Res.bad
    | none => Res.bad) = _
  rw [h2]
  show (bif Nat.ble ps.length 1000000 then _ else _) = _
  rw [h5]
  rfl
theorem dBin_ok {f : AV → AV → Store → Res AV} {da db : DE} {S : Slots} {st st1 st2 : Store} {x y : AV} {r : Res AV} (h1 : da S st = .ok x st1) (h2 : db S st1 = .ok y st2) (h3 : f x y st2 = r) : dBin f da db S st = r := by
  unfold dBin
  rw [h1]
  show ((db S st1).then _) = _
  rw [h2]
  exact h3
theorem set_get {st : Store} {m : Nat} {o o' : AO} (h : st[m]? = some o) : (st.set m o')[m]? = some o' := by
  have := (List.getElem?_eq_some_iff.mp h).1
  simp [this]
theorem set_self {st : Store} {m : Nat} {o : AO} (h : st[m]? = some o) : st.set m o = st := by
  obtain ⟨h1, h2⟩ := List.getElem?_eq_some_iff.mp h
  rw [← h2]; simp
theorem callP_v {den : PDen} {xs : List AV} {ps : List PV} {st : Store} {p : PV} {fr : Bool} (h1 : toPs xs = some ps) (h2 : den ps = .ok p fr) : callP den xs st = .ok (.v p fr) st := by
  unfold callP
  rw [h1]
  show (den ps).res _ _ = _
  rw [h2]
  rfl
end A

/-! plain lemmas: shares in lowest terms -/
namespace Law
open PySem PySem.Spec PyProof.Rows L2 A
def fr2 (p : Int × Int) : PV := .tup [.int p.1, .int p.2]
/-- lowest terms, by a gcd -/
def lowF (t b : Int) : Int × Int := bif decide (b < 0) then (t.fdiv (-(Int.gcd t b : Int)), b.fdiv (-(Int.gcd t b : Int))) else (t.fdiv (Int.gcd t b : Int), b.fdiv (Int.gcd t b : Int))
theorem gcd_mod (a b : Nat) (hb : 0 < b) : Nat.gcd b (a % b) = Nat.gcd a b := by
  rw [Nat.gcd_comm b, ← Nat.gcd_rec, Nat.gcd_comm]
abbrev euT : DT := dB (dBin fGt (dVar 1) (dC (.int (0))))
abbrev euB : DS := dSeq (dSet 2 (dBin fMod (dVar 0) (dVar 1))) (dSeq (dSet 0 (dVar 1)) (dSet 1 (dVar 2)))
theorem eu_loop : ∀ (n a b : Nat) (r : Option AV), b < n → ∃ r', whileN euT euB n [some (.v (.int a) false), some (.v (.int b) false), r] [] = .nx [some (.v (.int (Nat.gcd a b)) false), some (.v (.int 0) false), r'] [] := by
  intro n
  induction n with
  | zero => intro a b r h; omega
  | succ n ih =>
    intro a b r h
    by_cases hb : b = 0
    · subst hb
      exact ⟨r, by simp [whileN, runP, runI, slots0, A.strip, dRet, dRetN, Res.flow, Res.then, dBin, dI2, dVar, dC, fIx, okP, okV, freeze, L2.atI, L2.ixN, dSeq, dIf, dSet, dExpr, dB, dArg, dCons, dNil, callP, toPs, toP, PRes.res, dNext, dB1, fLen, lenOf, fAbs, fAdd, dAnd, dOr, dNot, dAndV, dOrV, dNotV, dBV, dIfE, dTup, dLst, newL, dAsg, gN, gT, gU, unP, gC, gE, dForE, forR, lstAt, turnsAt, dCompE, compR, isLst, dMeth, dMeth0, putL, itemsOf, fAppend, fExtend, fClear, fPop, fPopAt, fInsert, fReverse, fPut, dPut, fInts, dAug, dNeg, dPar, fInt, fMax2, fMin2, Nat.ble, dBreak, dCont, dComp, compL, noEx, wipeS, dYes, dRange1, dRange2, asI1, asI2, bnd, dItem, itemsV, dSlice, dPart, dNoPart, fSlice, A.cut, HT.sIx, A.listOf,  noBor, noBors, views, view, viewN, optAll]⟩
    · obtain ⟨r', e⟩ := ih b (a % b) (some (.v (.int (a % b : Nat)) false)) (by have := Nat.mod_lt a (y := b) (by omega); omega)
      rw [gcd_mod a b (by omega)] at e
      refine ⟨r', ?_⟩
      have hf : (a : Int).fmod b = ((a % b : Nat) : Int) := by rw [Int.fmod_eq_emod_of_nonneg _ (by omega)]; rfl
      have h0 : 0 < b := by omega
      rw [← e]
      simp [whileN, hb, h0, hf, runP, runI, slots0, A.strip, dRet, dRetN, Res.flow, Res.then, dBin, dI2, dVar, dC, fIx, okP, okV, freeze, L2.atI, L2.ixN, dSeq, dIf, dSet, dExpr, dB, dArg, dCons, dNil, callP, toPs, toP, PRes.res, dNext, dB1, fLen, lenOf, fAbs, fAdd, dAnd, dOr, dNot, dAndV, dOrV, dNotV, dBV, dIfE, dTup, dLst, newL, dAsg, gN, gT, gU, unP, gC, gE, dForE, forR, lstAt, turnsAt, dCompE, compR, isLst, dMeth, dMeth0, putL, itemsOf, fAppend, fExtend, fClear, fPop, fPopAt, fInsert, fReverse, fPut, dPut, fInts, dAug, dNeg, dPar, fInt, fMax2, fMin2, Nat.ble, dBreak, dCont, dComp, compL, noEx, wipeS, dYes, dRange1, dRange2, asI1, asI2, bnd, dItem, itemsV, dSlice, dPart, dNoPart, fSlice, A.cut, HT.sIx, A.listOf,  noBor, noBors, views, view, viewN, optAll]
end Law
namespace LF
open PySem PySem.Spec PyProof.Rows L2 A Law
/-! lowest terms -/
structure Low (t b n d : Int) : Prop where
  pos : 1 ≤ d
  one : Int.gcd n d = 1
  eq : n * b = t * d
  ln : n.natAbs ≤ t.natAbs
  ld : d.natAbs ≤ b.natAbs
theorem abs_le_mul {u n : Int} (h : u ≠ 0) : n.natAbs ≤ (u * n).natAbs := by
  rw [Int.natAbs_mul]
  exact Nat.le_mul_of_pos_left _ (by omega)
theorem lowF_low (t b : Int) (hb : b ≠ 0) : Low t b (lowF t b).1 (lowF t b).2 := by
  have gpos : 0 < Int.gcd t b := Int.gcd_pos_of_ne_zero_right _ hb
  obtain ⟨u, hu, hu2⟩ : ∃ u : Int, u = (if b < 0 then -(Int.gcd t b : Int) else (Int.gcd t b : Int)) ∧ u.natAbs = Int.gcd t b := by
    refine ⟨_, rfl, ?_⟩
    split <;> simp
  have u0 : u ≠ 0 := by intro h; rw [h] at hu2; simp at hu2; omega
  have d1 : u ∣ t := by
    rw [← Int.natAbs_dvd, hu2]; exact Int.gcd_dvd_left ..
  have d2 : u ∣ b := by
    rw [← Int.natAbs_dvd, hu2]; exact Int.gcd_dvd_right ..
  obtain ⟨n, hn⟩ := d1
  obtain ⟨d, hd⟩ := d2
  have q1 : t.fdiv u = n := by rw [hn]; exact Int.mul_fdiv_cancel_left _ u0
  have q2 : b.fdiv u = d := by rw [hd]; exact Int.mul_fdiv_cancel_left _ u0
  have e : lowF t b = (n, d) := by
    by_cases hneg : b < 0
    · rw [if_pos hneg] at hu
      simp [lowF, hneg, ← hu, q1, q2]
    · rw [if_neg hneg] at hu
      simp [lowF, hneg, ← hu, q1, q2]
  rw [e]
  refine ⟨?_, ?_, ?_, ?_, ?_⟩
  · show 1 ≤ d
    clear hu2
    by_cases hneg : b < 0
    · rw [if_pos hneg] at hu
      have : u < 0 := by omega
      by_cases hd0 : 1 ≤ d
      · exact hd0
      · have := Int.mul_nonneg_of_nonpos_of_nonpos (a := u) (b := d) (by omega) (by omega)
        omega
    · rw [if_neg hneg] at hu
      by_cases hd0 : 1 ≤ d
      · exact hd0
      · have := Int.mul_nonpos_of_nonneg_of_nonpos (a := u) (b := d) (by omega) (by omega)
        omega
  · have z : Int.gcd (u * n) (u * d) = u.natAbs * Int.gcd n d := Int.gcd_mul_left ..
    rw [← hn, ← hd, hu2] at z
    exact Nat.eq_of_mul_eq_mul_left gpos (by show Int.gcd t b * Int.gcd n d = Int.gcd t b * 1; omega)
  · show n * b = t * d
    rw [hd, hn, Int.mul_comm u d, ← Int.mul_assoc, Int.mul_comm (n * d), Int.mul_assoc]
  · show n.natAbs ≤ t.natAbs
    rw [hn]; exact abs_le_mul u0
  · show d.natAbs ≤ b.natAbs
    rw [hd]; exact abs_le_mul u0
abbrev plusF (p q : Int × Int) : Int × Int := lowF (p.1 * q.2 + q.1 * p.2) (p.2 * q.2)
abbrev timesF (p q : Int × Int) : Int × Int := lowF (p.1 * q.1) (p.2 * q.2)
/-- a share of at most n bits -/
structure Pz (n : Nat) (p : Int × Int) : Prop where
  pos : 0 < p.2
  a : Sz n p.1
  b : Sz n p.2
theorem Pz.mono {n m : Nat} {p : Int × Int} (h : Pz n p) (l : n ≤ m) : Pz m p := ⟨h.pos, h.a.mono l, h.b.mono l⟩
theorem Pz.low {n : Nat} {t b : Int} (ht : Sz n t) (hb : Sz n b) (h : b ≠ 0) : Pz n (lowF t b) := by
  have l := lowF_low t b h
  have := l.pos
  exact ⟨by omega, ht.of_le l.ln, hb.of_le l.ld⟩
theorem Pz.mul {n m : Nat} {p q : Int × Int} (h : Pz n p) (k : Pz m q) : 0 < p.2 * q.2 := Int.mul_pos h.pos k.pos
theorem Pz.plus {n m : Nat} {p q : Int × Int} (h : Pz n p) (k : Pz m q) : Pz (n + m + 1) (plusF p q) := by
  have b0 := h.mul k
  refine Pz.low ?_ ((h.b.mul k.b).mono (by omega)) (by omega)
  have z := k.a.mul h.b
  rw [Nat.add_comm] at z
  exact (h.a.mul k.b).add z
theorem Pz.times {n m : Nat} {p q : Int × Int} (h : Pz n p) (k : Pz m q) : Pz (n + m) (timesF p q) := by
  have b0 := h.mul k
  exact Pz.low (h.a.mul k.a) (h.b.mul k.b) (by omega)
section
variable {n m : Nat} {p q : Int × Int}
theorem mC (h : Sz n p.1) (k : Sz m q.1) (l : n + m < 100000000) : mulC p.1 q.1 = true := mulC_of h k l
end
theorem ix0 {p : Int × Int} {fr : Bool} {st : Store} : fIx (.v (fr2 p) fr) (.v (.int 0) false) st = .ok (.v (.int p.1) false) st := by simp [fr2, runP, runI, slots0, A.strip, dRet, dRetN, Res.flow, Res.then, dBin, dI2, dVar, dC, fIx, okP, okV, freeze, L2.atI, L2.ixN, dSeq, dIf, dSet, dExpr, dB, dArg, dCons, dNil, callP, toPs, toP, PRes.res, dNext, dB1, fLen, lenOf, fAbs, fAdd, dAnd, dOr, dNot, dAndV, dOrV, dNotV, dBV, dIfE, dTup, dLst, newL, dAsg, gN, gT, gU, unP, gC, gE, dForE, forR, lstAt, turnsAt, dCompE, compR, isLst, dMeth, dMeth0, putL, itemsOf, fAppend, fExtend, fClear, fPop, fPopAt, fInsert, fReverse, fPut, dPut, fInts, dAug, dNeg, dPar, fInt, fMax2, fMin2, Nat.ble, dBreak, dCont, dComp, compL, noEx, wipeS, dYes, dRange1, dRange2, asI1, asI2, bnd, dItem, itemsV, dSlice, dPart, dNoPart, fSlice, A.cut, HT.sIx, A.listOf,  noBor, noBors, views, view, viewN, optAll]
theorem ix1 {p : Int × Int} {fr : Bool} {st : Store} : fIx (.v (fr2 p) fr) (.v (.int 1) false) st = .ok (.v (.int p.2) false) st := by simp [fr2, runP, runI, slots0, A.strip, dRet, dRetN, Res.flow, Res.then, dBin, dI2, dVar, dC, fIx, okP, okV, freeze, L2.atI, L2.ixN, dSeq, dIf, dSet, dExpr, dB, dArg, dCons, dNil, callP, toPs, toP, PRes.res, dNext, dB1, fLen, lenOf, fAbs, fAdd, dAnd, dOr, dNot, dAndV, dOrV, dNotV, dBV, dIfE, dTup, dLst, newL, dAsg, gN, gT, gU, unP, gC, gE, dForE, forR, lstAt, turnsAt, dCompE, compR, isLst, dMeth, dMeth0, putL, itemsOf, fAppend, fExtend, fClear, fPop, fPopAt, fInsert, fReverse, fPut, dPut, fInts, dAug, dNeg, dPar, fInt, fMax2, fMin2, Nat.ble, dBreak, dCont, dComp, compL, noEx, wipeS, dYes, dRange1, dRange2, asI1, asI2, bnd, dItem, itemsV, dSlice, dPart, dNoPart, fSlice, A.cut, HT.sIx, A.listOf,  noBor, noBors, views, view, viewN, optAll]
theorem eq2 {p q : Int × Int} {f g : Bool} {st : Store} : fEq false (.v (fr2 p) f) (.v (fr2 q) g) st = .ok (.v (.bl (decide (p = q))) false) st := by
  obtain ⟨a, b⟩ := p
  obtain ⟨c, d⟩ := q
  by_cases h1 : a = c
  · by_cases h2 : b = d
    · simp [fr2, h1, h2, fEq, fInU, seqD, A.dataOf, toD, toDs, SeqAt.shaped, PyData.canLay0, PyData.canLayAll0, PyData.depthAll, PyData.depth, PyData.eqv, PyData.eqvAll, runP, runI, slots0, A.strip, dRet, dRetN, Res.flow, Res.then, dBin, dI2, dVar, dC, fIx, okP, okV, freeze, L2.atI, L2.ixN, dSeq, dIf, dSet, dExpr, dB, dArg, dCons, dNil, callP, toPs, toP, PRes.res, dNext, dB1, fLen, lenOf, fAbs, fAdd, dAnd, dOr, dNot, dAndV, dOrV, dNotV, dBV, dIfE, dTup, dLst, newL, dAsg, gN, gT, gU, unP, gC, gE, dForE, forR, lstAt, turnsAt, dCompE, compR, isLst, dMeth, dMeth0, putL, itemsOf, fAppend, fExtend, fClear, fPop, fPopAt, fInsert, fReverse, fPut, dPut, fInts, dAug, dNeg, dPar, fInt, fMax2, fMin2, Nat.ble, dBreak, dCont, dComp, compL, noEx, wipeS, dYes, dRange1, dRange2, asI1, asI2, bnd, dItem, itemsV, dSlice, dPart, dNoPart, fSlice, A.cut, HT.sIx, A.listOf,  noBor, noBors, views, view, viewN, optAll]
    · simp [fr2, h1, h2, fEq, fInU, seqD, A.dataOf, toD, toDs, SeqAt.shaped, PyData.canLay0, PyData.canLayAll0, PyData.depthAll, PyData.depth, PyData.eqv, PyData.eqvAll, runP, runI, slots0, A.strip, dRet, dRetN, Res.flow, Res.then, dBin, dI2, dVar, dC, fIx, okP, okV, freeze, L2.atI, L2.ixN, dSeq, dIf, dSet, dExpr, dB, dArg, dCons, dNil, callP, toPs, toP, PRes.res, dNext, dB1, fLen, lenOf, fAbs, fAdd, dAnd, dOr, dNot, dAndV, dOrV, dNotV, dBV, dIfE, dTup, dLst, newL, dAsg, gN, gT, gU, unP, gC, gE, dForE, forR, lstAt, turnsAt, dCompE, compR, isLst, dMeth, dMeth0, putL, itemsOf, fAppend, fExtend, fClear, fPop, fPopAt, fInsert, fReverse, fPut, dPut, fInts, dAug, dNeg, dPar, fInt, fMax2, fMin2, Nat.ble, dBreak, dCont, dComp, compL, noEx, wipeS, dYes, dRange1, dRange2, asI1, asI2, bnd, dItem, itemsV, dSlice, dPart, dNoPart, fSlice, A.cut, HT.sIx, A.listOf,  noBor, noBors, views, view, viewN, optAll]
  · simp [fr2, h1, fEq, fInU, seqD, A.dataOf, toD, toDs, SeqAt.shaped, PyData.canLay0, PyData.canLayAll0, PyData.depthAll, PyData.depth, PyData.eqv, PyData.eqvAll, runP, runI, slots0, A.strip, dRet, dRetN, Res.flow, Res.then, dBin, dI2, dVar, dC, fIx, okP, okV, freeze, L2.atI, L2.ixN, dSeq, dIf, dSet, dExpr, dB, dArg, dCons, dNil, callP, toPs, toP, PRes.res, dNext, dB1, fLen, lenOf, fAbs, fAdd, dAnd, dOr, dNot, dAndV, dOrV, dNotV, dBV, dIfE, dTup, dLst, newL, dAsg, gN, gT, gU, unP, gC, gE, dForE, forR, lstAt, turnsAt, dCompE, compR, isLst, dMeth, dMeth0, putL, itemsOf, fAppend, fExtend, fClear, fPop, fPopAt, fInsert, fReverse, fPut, dPut, fInts, dAug, dNeg, dPar, fInt, fMax2, fMin2, Nat.ble, dBreak, dCont, dComp, compL, noEx, wipeS, dYes, dRange1, dRange2, asI1, asI2, bnd, dItem, itemsV, dSlice, dPart, dNoPart, fSlice, A.cut, HT.sIx, A.listOf,  noBor, noBors, views, view, viewN, optAll]


abbrev minusF (p q : Int × Int) : Int × Int := lowF (p.1 * q.2 - q.1 * p.2) (p.2 * q.2)
abbrev greaterF (p q : Int × Int) : Int × Int := bif decide (p.1 * q.2 < q.1 * p.2) then q else p
theorem Pz.minus {n m : Nat} {p q : Int × Int} (h : Pz n p) (k : Pz m q) : Pz (n + m + 1) (minusF p q) := by
  have b0 := h.mul k
  refine Pz.low ?_ ((h.b.mul k.b).mono (by omega)) (by omega)
  have z := k.a.mul h.b
  rw [Nat.add_comm] at z
  exact (h.a.mul k.b).sub z
theorem Pz.greater {n : Nat} {p q : Int × Int} (h : Pz n p) (k : Pz n q) : Pz n (greaterF p q) := by
  unfold greaterF
  cases decide (p.1 * q.2 < q.1 * p.2)
  · exact h
  · exact k
/-! values -/
def val (p : Int × Int) : Rat := (p.1 : Rat) / (p.2 : Rat)
structure Lo (p : Int × Int) : Prop where
  pos : 0 < p.2
  one : Int.gcd p.1 p.2 = 1
theorem lo_low {t b : Int} (h : b ≠ 0) : Lo (lowF t b) := by
  have l := lowF_low t b h
  have := l.pos
  exact ⟨by omega, l.one⟩
theorem ne_cast {b : Int} (h : b ≠ 0) : (b : Rat) ≠ 0 := by
  intro z
  exact h (by exact_mod_cast z)
theorem val_low {t b : Int} (h : b ≠ 0) : val (lowF t b) = (t : Rat) / (b : Rat) := by
  have l := lowF_low t b h
  have p := l.pos
  have e := l.eq
  generalize lowF t b = x at *
  obtain ⟨n, d⟩ := x
  show (n : Rat) / (d : Rat) = (t : Rat) / (b : Rat)
  have h1 : (b : Rat) ≠ 0 := ne_cast h
  have h2 : (d : Rat) ≠ 0 := ne_cast (by show d ≠ 0; simp only at p; omega)
  have h3 : (n : Rat) * b = t * d := by exact_mod_cast e
  grind
theorem cop {a b d : Int} (h : Int.gcd a b = 1) (k : b ∣ a * d) : b ∣ d := by
  rw [← Int.natAbs_dvd_natAbs] at *
  rw [Int.natAbs_mul] at k
  have c : Nat.Coprime b.natAbs a.natAbs := by
    rw [Nat.coprime_iff_gcd_eq_one, Nat.gcd_comm]; exact h
  exact c.dvd_of_dvd_mul_left k
theorem lo_eq {p q : Int × Int} (h : Lo p) (k : Lo q) (e : val p = val q) : p = q := by
  obtain ⟨a, b⟩ := p
  obtain ⟨c, d⟩ := q
  obtain ⟨h1, h2⟩ := h
  obtain ⟨k1, k2⟩ := k
  simp only at h1 h2 k1 k2
  have z1 : (b : Rat) ≠ 0 := ne_cast (by omega)
  have z2 : (d : Rat) ≠ 0 := ne_cast (by omega)
  have e1 : (a : Rat) * d = c * b := by
    have : (a : Rat) / b = c / d := e
    grind
  have e2 : a * d = c * b := by exact_mod_cast e1
  have d1 : b ∣ d := by
    have : b ∣ a * d := ⟨c, by rw [e2, Int.mul_comm]⟩
    exact cop h2 this
  have d2 : d ∣ b := by
    have : d ∣ c * b := ⟨a, by rw [← e2, Int.mul_comm]⟩
    exact cop k2 this
  have bd : b = d := by
    have := Int.le_of_dvd k1 d1
    have := Int.le_of_dvd h1 d2
    omega
  subst bd
  have := Int.eq_of_mul_eq_mul_right (by omega) e2
  rw [this]
theorem val_plus {p q : Int × Int} (h : 0 < p.2) (k : 0 < q.2) : val (plusF p q) = val p + val q := by
  have z1 : (p.2 : Rat) ≠ 0 := ne_cast (by omega)
  have z2 : (q.2 : Rat) ≠ 0 := ne_cast (by omega)
  have b0 : p.2 * q.2 ≠ 0 := by have := Int.mul_pos h k; omega
  unfold plusF
  rw [val_low b0, val, val]
  push_cast
  grind
theorem val_minus {p q : Int × Int} (h : 0 < p.2) (k : 0 < q.2) : val (minusF p q) = val p - val q := by
  have z1 : (p.2 : Rat) ≠ 0 := ne_cast (by omega)
  have z2 : (q.2 : Rat) ≠ 0 := ne_cast (by omega)
  have b0 : p.2 * q.2 ≠ 0 := by have := Int.mul_pos h k; omega
  unfold minusF
  rw [val_low b0, val, val]
  push_cast
  grind
theorem val_times {p q : Int × Int} (h : 0 < p.2) (k : 0 < q.2) : val (timesF p q) = val p * val q := by
  have z1 : (p.2 : Rat) ≠ 0 := ne_cast (by omega)
  have z2 : (q.2 : Rat) ≠ 0 := ne_cast (by omega)
  have b0 : p.2 * q.2 ≠ 0 := by have := Int.mul_pos h k; omega
  unfold timesF
  rw [val_low b0, val, val]
  push_cast
  grind
end LF

/-! plain lemmas: walking a denotation by tactics (ev: an expression's value; Wp: a statement's end) -/
namespace A
open PySem PySem.Spec PyProof.Rows L2
section
variable {S S1 : Slots} {st st1 st2 st3 : Store} {x y : AV} {xs : List AV}
theorem dVar_ok {i : Nat} (h : S[i]? = some (some x)) : dVar i S st = .ok x st := by
  unfold dVar
  rw [h]
theorem dC_ok {p : PV} : dC p S st = .ok (.v p false) st := rfl
theorem dNil_ok : dNil S st = .ok [] st := rfl
theorem i2_ok {C : Int → Int → Bool} {g : Int → Int → PV} {i j : Int} {a b : Bool} {p : PV} (h : C i j = true) (e : g i j = p) : dI2 C g (.v (.int i) a) (.v (.int j) b) st = .ok (.v p false) st := by
  show (bif C i j then Res.ok (AV.v (g i j) false) st else Res.bad) = _
  rw [h, e]
  rfl
theorem fSub_ok {i j : Int} {a b : Bool} : fSub (.v (.int i) a) (.v (.int j) b) st = .ok (.v (.int (i - j)) false) st := rfl
theorem fMul_ok {i j : Int} {a b : Bool} (h : mulC i j = true) : fMul (.v (.int i) a) (.v (.int j) b) st = .ok (.v (.int (i * j)) false) st := i2_ok h rfl
theorem fMod_ok {i j : Int} {a b : Bool} (h : j ≠ 0) : fMod (.v (.int i) a) (.v (.int j) b) st = .ok (.v (.int (i.fmod j)) false) st := i2_ok (decide_eq_true h) rfl
theorem fDiv_ok {i j : Int} {a b : Bool} (h : j ≠ 0) : fDiv (.v (.int i) a) (.v (.int j) b) st = .ok (.v (.int (i.fdiv j)) false) st := i2_ok (decide_eq_true h) rfl
theorem fPow_ok {i j k : Int} {a b : Bool} (h : (decide (0 ≤ j) && decide (j ≤ 1000000) && decide (i.natAbs < 2 ^ 64)) = true) (e : i ^ j.toNat = k) : fPow (.v (.int i) a) (.v (.int j) b) st = .ok (.v (.int k) false) st := i2_ok h (congrArg PV.int e)
theorem fLt_ok {i j : Int} {a b : Bool} : fLt (.v (.int i) a) (.v (.int j) b) st = .ok (.v (.bl (decide (i < j))) false) st := rfl
theorem fLe_ok {i j : Int} {a b : Bool} : fLe (.v (.int i) a) (.v (.int j) b) st = .ok (.v (.bl (decide (i ≤ j))) false) st := rfl
theorem fGt_ok {i j : Int} {a b : Bool} : fGt (.v (.int i) a) (.v (.int j) b) st = .ok (.v (.bl (decide (j < i))) false) st := rfl
theorem fGe_ok {i j : Int} {a b : Bool} : fGe (.v (.int i) a) (.v (.int j) b) st = .ok (.v (.bl (decide (j ≤ i))) false) st := rfl
theorem fAdd_ok {r : Bool} {i j : Int} {a b : Bool} : fAdd r (.v (.int i) a) (.v (.int j) b) st = .ok (.v (.int (i + j)) false) st := rfl
theorem fEq_int {i j : Int} {a b : Bool} : fEq false (.v (.int i) a) (.v (.int j) b) st = .ok (.v (.bl (decide (i = j))) false) st := by
  show Res.ok (AV.v (.bl (PyData.eqv (.int i) (.int j))) false) st = _
  rw [show PyData.eqv (.int i) (.int j) = decide (i = j) by simp [PyData.eqv]; exact (Bool.eq_iff_iff.mpr (by simp))]
theorem fNe_int {i j : Int} {a b : Bool} : fEq true (.v (.int i) a) (.v (.int j) b) st = .ok (.v (.bl (decide (i ≠ j))) false) st := by
  show Res.ok (AV.v (.bl (!PyData.eqv (.int i) (.int j))) false) st = _
  rw [show (!PyData.eqv (.int i) (.int j)) = decide (i ≠ j) by simp [PyData.eqv]; rfl]
theorem eq2' {p q : Int × Int} {f g : Bool} : fEq false (.v (Law.fr2 p) f) (.v (Law.fr2 q) g) st = .ok (.v (.bl (decide (p = q))) false) st := LF.eq2
theorem fNe_of {b : Bool} (h : fEq false x y st = .ok (.v (.bl b) false) st) : fEq true x y st = .ok (.v (.bl (!b)) false) st := by
  unfold fEq at h ⊢
  cases e1 : A.dataOf st x with
  | none => simp only [e1] at h; cases h
  | some d =>
    cases e2 : A.dataOf st y with
    | none => simp only [e1, e2] at h; cases h
    | some e =>
      simp only [e1, e2] at h ⊢
      cases q : (SeqAt.shaped d && SeqAt.shaped e) with
      | false => rw [q] at h; cases h
      | true =>
        rw [q] at h
        simp only [cond_true, cond_false] at h ⊢
        injection h with h1 h2
        injection h1 with h3 h4
        injection h3 with h5
        rw [h5]
theorem ne2 {p q : Int × Int} {f g : Bool} : fEq true (.v (Law.fr2 p) f) (.v (Law.fr2 q) g) st = .ok (.v (.bl (!decide (p = q))) false) st := fNe_of LF.eq2
theorem fIx_tup {ps : List PV} {i : Int} {a b : Bool} {p : PV} (h : L2.atI ps i = some p) : fIx (.v (.tup ps) a) (.v (.int i) b) st = .ok (.v p false) st := by
  show okP st (L2.atI ps i) = _
  rw [h]; rfl
theorem atN {α : Type} {ps : List α} {i : Nat} {p : α} (h : ps[i]? = some p) : L2.atI ps (i : Int) = some p := by
  have hi := (List.getElem?_eq_some_iff.mp h).1
  unfold L2.atI L2.ixN
  have e := (List.getElem?_eq_some_iff.mp h).2
  simp [hi, e]
theorem fIx_lst {ps : List PV} {t : Bool} {i : Int} {a b : Bool} {p : PV} (h : L2.atI ps i = some p) : fIx (.v (.lst t ps) a) (.v (.int i) b) st = .ok (.v p false) st := by
  show okP st (L2.atI ps i) = _
  rw [h]; rfl
theorem fIx_scr {ns : List Int} {i : Int} {a b : Bool} {k : Int} (h : L2.atI ns i = some k) : fIx (.v (.scr ns) a) (.v (.int i) b) st = .ok (.v (.int k) false) st := by
  show okP st ((L2.atI ns i).map .int) = _
  rw [h]; rfl
theorem lstAt_eq {n : Nat} {ys : List AV} (h : lstAt st n = some ys) : st[n]? = some (.lst ys) := by
  unfold lstAt at h
  cases e : st[n]? with
  | none => rw [e] at h; cases h
  | some o =>
    rw [e] at h
    cases o <;> first | (cases h; rfl) | cases h
theorem fIx_ref {n : Nat} {ys : List AV} {i : Int} {b : Bool} {z : AV} (h : lstAt st n = some ys) (k : L2.atI ys i = some z) : fIx (.ref n) (.v (.int i) b) st = .ok (A.strip z) st := by
  have e := lstAt_eq h
  simp only [fIx, e, k, okV]
theorem dArg_ok {k : Nat} {f : List AV → Store → Res AV} {da : DA} {r : Res AV} (h1 : da S st = .ok xs st1) (h2 : Nat.beq xs.length k = true) (h3 : f xs st1 = r) : dArg k f da S st = r := by
  show ((da S st).then fun xs st1 => bif Nat.beq xs.length k then f xs st1 else .bad) = _
  rw [h1]
  show (bif Nat.beq xs.length k then f xs st1 else .bad) = _
  rw [h2]
  exact h3
section
variable {den : PDen} {p q a b c d e : PV} {f1 f2 f3 f4 f5 fr : Bool}
theorem cP0 (h : den [] = .ok q fr) : callP den [] st = .ok (.v q fr) st := callP_v rfl h
theorem cP1 (h : den [a] = .ok q fr) : callP den [.v a f1] st = .ok (.v q fr) st := callP_v rfl h
theorem cP2 (h : den [a, b] = .ok q fr) : callP den [.v a f1, .v b f2] st = .ok (.v q fr) st := callP_v rfl h
theorem cP3 (h : den [a, b, c] = .ok q fr) : callP den [.v a f1, .v b f2, .v c f3] st = .ok (.v q fr) st := callP_v rfl h
theorem cP4 (h : den [a, b, c, d] = .ok q fr) : callP den [.v a f1, .v b f2, .v c f3, .v d f4] st = .ok (.v q fr) st := callP_v rfl h
theorem cP5 (h : den [a, b, c, d, e] = .ok q fr) : callP den [.v a f1, .v b f2, .v c f3, .v d f4, .v e f5] st = .ok (.v q fr) st := callP_v rfl h
theorem toPs_refs_nil : toPs [] = some [] := rfl
/-- a call of places of the store: they are lent as data -/
theorem cPw {ps : List PV} (h0 : toPs xs = none) (h1 : views false st xs = some ps) (h2 : den ps = .ok p fr) (h3 : noBor p = true) : callP den xs st = .ok (.v p fr) st := by
  unfold callP
  simp only [h0, h1, h2, h3, cond_true]
theorem cU {ps ys : List PV} {t : Bool} (h1 : toPs xs = some ps) (h2 : den ps = .ok (.lst t ys) true) : callU den xs st = .ok (.ref st.length) (st ++ [.lst (ys.map (AV.v · false))]) := by
  unfold callU
  rw [h1]
  show (den ps).res _ _ = _
  rw [h2]
  rfl
end
theorem dNot_ok' {da : DT} {b c : Bool} (h : da S st = .ok b st1) (e : (!b) = c) : dNot da S st = .ok c st1 := by
  unfold dNot
  rw [h, ← e]
  rfl
theorem dB_ok' {de : DE} {b fr : Bool} (h : de S st = .ok (.v (.bl b) fr) st1) : dB de S st = .ok b st1 := by
  unfold dB
  rw [h]
  rfl
/-- both sides are looked at, which is no matter when they come to something -/
theorem dAnd_ok {da db : DT} {a b : Bool} (h : da S st = .ok a st1) (k : a = true → db S st1 = .ok b st1) : dAnd da db S st = .ok (a && b) st1 := by
  unfold dAnd
  rw [h]
  show (bif a then db S st1 else .ok false st1) = _
  cases a with
  | true => exact k rfl
  | false => rfl
theorem dOr_ok {da db : DT} {a b : Bool} (h : da S st = .ok a st1) (k : a = false → db S st1 = .ok b st1) : dOr da db S st = .ok (a || b) st1 := by
  unfold dOr
  rw [h]
  show (bif a then .ok true st1 else db S st1) = _
  cases a with
  | true => rfl
  | false => exact k rfl
theorem dBV_ok {da : DT} {b : Bool} (h : da S st = .ok b st1) : dBV da S st = .ok (.v (.bl b) false) st1 := by
  unfold dBV
  rw [h]
  rfl
theorem dNotV_ok {de : DE} {b fr : Bool} (h : de S st = .ok (.v (.bl b) fr) st1) : dNotV de S st = .ok (.v (.bl (!b)) false) st1 := by
  unfold dNotV
  rw [h]
  rfl
theorem dAndV_ok {de df : DE} {a b fr fr' : Bool} (h : de S st = .ok (.v (.bl a) fr) st1) (k : a = true → df S st1 = .ok (.v (.bl b) false) st1) : dAndV de df S st = .ok (.v (.bl (a && b)) false) st1 := by
  unfold dAndV
  rw [h]
  show (bif a then df S st1 else .ok (.v (.bl false) false) st1) = _
  cases a with
  | true => exact k rfl
  | false => rfl
theorem dOrV_ok {de df : DE} {a b fr : Bool} (h : de S st = .ok (.v (.bl a) fr) st1) (k : a = false → df S st1 = .ok (.v (.bl b) false) st1) : dOrV de df S st = .ok (.v (.bl (a || b)) false) st1 := by
  unfold dOrV
  rw [h]
  show (bif a then .ok (.v (.bl true) false) st1 else df S st1) = _
  cases a with
  | true => rfl
  | false => exact k rfl
theorem dIfE_t {dt : DT} {de df : DE} {r : Res AV} (h : dt S st = .ok true st1) (k : de S st1 = r) : dIfE dt de df S st = r := by
  unfold dIfE
  rw [h]
  exact k
theorem dIfE_f {dt : DT} {de df : DE} {r : Res AV} (h : dt S st = .ok false st1) (k : df S st1 = r) : dIfE dt de df S st = r := by
  unfold dIfE
  rw [h]
  exact k
theorem dNeg_ok {de : DE} {i : Int} {fr : Bool} (h : de S st = .ok (.v (.int i) fr) st1) : dNeg de S st = .ok (.v (.int (-i)) false) st1 := by
  unfold dNeg
  rw [h]
  rfl
theorem dTup2 {da : DA} {p q : PV} {f g : Bool} (h : da S st = .ok [.v p f, .v q g] st1) : dTup da S st = .ok (.v (.tup [p, q]) false) st1 := dTup_ok h rfl (by simp)
theorem dTupF {da : DA} {i j : Int} {f g : Bool} (h : da S st = .ok [.v (.int i) f, .v (.int j) g] st1) : dTup da S st = .ok (.v (Law.fr2 (i, j)) false) st1 := dTup2 h
theorem dTup3 {da : DA} {p q r : PV} {f g k : Bool} (h : da S st = .ok [.v p f, .v q g, .v r k] st1) : dTup da S st = .ok (.v (.tup [p, q, r]) false) st1 := dTup_ok h rfl (by simp)
theorem dTup4 {da : DA} {p q r s : PV} {f g k l : Bool} (h : da S st = .ok [.v p f, .v q g, .v r k, .v s l] st1) : dTup da S st = .ok (.v (.tup [p, q, r, s]) false) st1 := dTup_ok h rfl (by simp)
theorem dTup1 {da : DA} {p : PV} {f : Bool} (h : da S st = .ok [.v p f] st1) : dTup da S st = .ok (.v (.tup [p]) false) st1 := dTup_ok h rfl (by simp)
theorem dLst_f {da : DA} {ps : List PV} (h : da S st = .ok xs st1) (e : toPs xs = some ps) (l : Nat.ble xs.length 1000000 = true := by rfl) : dLst false da S st = .ok (.v (.lst true ps) true) st1 := by
  unfold dLst
  rw [h]
  show (bif Nat.ble xs.length 1000000 then newL false xs st1 else .bad) = _
  rw [l]
  exact newL_false e
theorem dLst_t {da : DA} (h : da S st = .ok xs st1) (l : Nat.ble xs.length 1000000 = true := by rfl) : dLst true da S st = .ok (.ref st1.length) (st1 ++ [.lst (xs.map A.strip)]) := by
  unfold dLst
  rw [h]
  show (bif Nat.ble xs.length 1000000 then newL true xs st1 else .bad) = _
  rw [l]
  exact newL_true
theorem fLen_lst {t fr : Bool} {ps : List PV} : fLen [.v (.lst t ps) fr] st = .ok (.v (.int (ps.length : Int)) false) st := rfl
theorem fLen_tup {fr : Bool} {ps : List PV} : fLen [.v (.tup ps) fr] st = .ok (.v (.int (ps.length : Int)) false) st := rfl
theorem fLen_scr {fr : Bool} {ns : List Int} : fLen [.v (.scr ns) fr] st = .ok (.v (.int (ns.length : Int)) false) st := rfl
theorem fLen_ref {n : Nat} {ys : List AV} (h : lstAt st n = some ys) : fLen [.ref n] st = .ok (.v (.int (ys.length : Int)) false) st := by
  have e := lstAt_eq h
  simp only [fLen, lenOf, e]
theorem fList_f {t fr : Bool} {ps : List PV} : fList false [.v (.lst t ps) fr] st = .ok (.v (.lst true ps) true) st := by
  show newL false (ps.map (AV.v · false)) st = _
  exact newL_false (toPs_pvs ps)
theorem fList_t {t fr : Bool} {ps : List PV} : fList true [.v (.lst t ps) fr] st = .ok (.ref st.length) (st ++ [.lst (ps.map (AV.v · false))]) := by
  show newL true (ps.map (AV.v · false)) st = _
  rw [newL_true, strip_pvs]
theorem isL_ref {n : Nat} {ys : List AV} (h : lstAt st n = some ys) : isLst st (.ref n) = true := by
  show (lstAt st n).isSome = true
  rw [h]; rfl
theorem fAppend_ok {n : Nat} {ys : List AV} {z : AV} (h : lstAt st n = some ys) (l : ys.length < 1000000) : fAppend (.ref n) [z] st = .ok (.v .non false) (st.set n (.lst (ys ++ [A.strip z]))) := by
  have e : Nat.blt ys.length 1000000 = true := Nat.ble_eq.mpr l
  unfold fAppend
  simp only [h, e, cond_true]
  rfl
theorem fExtend_ok {n : Nat} {ys zs : List AV} {z : AV} (h : lstAt st n = some ys) (k : itemsOf st z = some zs) (l : ys.length + zs.length ≤ 1000000) : fExtend (.ref n) [z] st = .ok (.v .non false) (st.set n (.lst (ys ++ zs))) := by
  have e : Nat.ble (ys.length + zs.length) 1000000 = true := Nat.ble_eq.mpr l
  unfold fExtend
  simp only [h, k, e, cond_true]
  rfl
theorem dMeth_at {f : AV → List AV → Store → Res AV} {de : DE} {da : DA} {r : Res AV} (h1 : de S st = .ok x st1) (h2 : isLst st1 x = true) (h3 : da S st1 = .ok xs st2) (h4 : f x xs st2 = r) : dMeth f de da S st = r := by
  unfold dMeth
  rw [h1]
  show (bif isLst st1 x then (da S st1).then fun xs st2 => f x xs st2 else .bad) = _
  rw [h2]
  show ((da S st1).then _) = _
  rw [h3]
  exact h4
theorem dMeth0_at {f : AV → List AV → Store → Res AV} {de : DE} {r : Res AV} (h1 : de S st = .ok x st1) (h2 : isLst st1 x = true) (h4 : f x [] st1 = r) : dMeth0 f de S st = r := by
  unfold dMeth0
  rw [h1]
  show (bif isLst st1 x then f x [] st1 else .bad) = _
  rw [h2]
  exact h4
theorem dChain_ok {f f' : AV → AV → Store → Res AV} {da db de : DE} {z : AV} {k k' a b : Bool} (h1 : da S st = .ok x st1) (h2 : db S st1 = .ok y st2) (h3 : f x y st2 = .ok (.v (.bl k) a) st2) (h4 : de S st2 = .ok z st2) (h5 : f' y z st2 = .ok (.v (.bl k') b) st2) : dChain f f' da db de S st = .ok (.v (.bl (k && k')) (bif k then b else false)) st2 := by
  unfold dChain
  rw [h1]
  show ((db S st1).then _) = _
  rw [h2]
  show ((f x y st2).then _) = _
  rw [h3]
  show (bif k then (de S st2).then fun u st4 => f' y u st4 else .ok (.v (.bl false) false) st2) = _
  cases k with
  | true =>
    show ((de S st2).then fun u st4 => f' y u st4) = _
    rw [h4]
    exact h5
  | false => rfl
end
/-! a comprehension over data -/
theorem compL_enc {α : Type} {tg : DG} {e : DE} {S0 : Slots} {st : Store} (enc f : α → AV) : ∀ ys : List α, (∀ y ∈ ys, ∃ S1, tg (enc y) S0 = some S1 ∧ e S1 st = .ok (f y) st) → compL tg dYes e S0 (ys.map enc) st = .ok (ys.map f) st
  | [], _ => rfl
  | y :: ys, h => by
    obtain ⟨S1, h1, h2⟩ := h y List.mem_cons_self
    have := compL_enc enc f ys fun y hy => h y (List.mem_cons_of_mem _ hy)
    simp [compL, h1, h2, dYes, Res.then, this]
theorem compL_filt {α : Type} {tg : DG} {t : DT} {e : DE} {S0 : Slots} {st : Store} (enc f : α → AV) (c : α → Bool) : ∀ ys : List α, (∀ y ∈ ys, ∃ S1, tg (enc y) S0 = some S1 ∧ t S1 st = .ok (c y) st ∧ (c y = true → e S1 st = .ok (f y) st)) → compL tg t e S0 (ys.map enc) st = .ok ((ys.filter c).map f) st
  | [], _ => rfl
  | y :: ys, h => by
    obtain ⟨S1, h1, h2, h3⟩ := h y List.mem_cons_self
    have := compL_filt enc f c ys fun y hy => h y (List.mem_cons_of_mem _ hy)
    cases q : c y with
    | true => simp [compL, h1, h2, h3 q, q, Res.then, this]
    | false => simp [compL, h1, h2, q, Res.then, this]
theorem toPs_map {α : Type} (g : α → PV) (fl : Bool) : ∀ ys : List α, toPs (ys.map fun y => .v (g y) fl) = some (ys.map g)
  | [] => rfl
  | y :: ys => by
    rw [List.map_cons, toPs, toPs_map g fl ys]
    rfl
theorem compE_enc {α : Type} {vs : List Nat} {di : DE} {tg : DG} {e : DE} {S : Slots} {st st1 : Store} {t fr : Bool} (enc g : α → PV) (ys : List α) (h : di S st = .ok (.v (.lst t (ys.map enc)) fr) st1) (l : ys.length ≤ 1000000) (k : ∀ y ∈ ys, ∃ S1, tg (.v (enc y) false) (wipeS S vs) = some S1 ∧ e S1 st1 = .ok (.v (g y) false) st1) : dCompE false vs di tg dYes e S st = .ok (.v (.lst true (ys.map g)) true) st1 := by
  rw [compE_at (xs := ys.map fun y => .v (enc y) false) h (by show some ((ys.map enc).map (AV.v · false)) = _; rw [List.map_map]; rfl) (compL_enc (fun y => .v (enc y) false) (fun y => .v (g y) false) ys k) (by rw [List.length_map]; exact l)]
  exact newL_false (toPs_map g false ys)
theorem compE_filt {α : Type} {vs : List Nat} {di : DE} {tg : DG} {tt : DT} {e : DE} {S : Slots} {st st1 : Store} {t fr : Bool} (enc g : α → PV) (c : α → Bool) (ys : List α) (h : di S st = .ok (.v (.lst t (ys.map enc)) fr) st1) (l : ys.length ≤ 1000000) (k : ∀ y ∈ ys, ∃ S1, tg (.v (enc y) false) (wipeS S vs) = some S1 ∧ tt S1 st1 = .ok (c y) st1 ∧ (c y = true → e S1 st1 = .ok (.v (g y) false) st1)) : dCompE false vs di tg tt e S st = .ok (.v (.lst true ((ys.filter c).map g)) true) st1 := by
  rw [compE_at (xs := ys.map fun y => .v (enc y) false) h (by show some ((ys.map enc).map (AV.v · false)) = _; rw [List.map_map]; rfl) (compL_filt (fun y => .v (enc y) false) (fun y => .v (g y) false) c ys k) (by rw [List.length_map]; exact Nat.le_trans (List.length_filter_le _ _) l)]
  exact newL_false (toPs_map g false _)
/-! statements -/
def Wp (d : DS) (S : Slots) (st : Store) (Q : A.Flow → Prop) : Prop := Q (d S st)
section
variable {a b d r : DS} {S S1 : Slots} {st st1 st2 : Store} {Q : A.Flow → Prop} {x : AV} {de : DE}
theorem wp_nx (h : a S st = .nx S1 st1) (k : Wp b S1 st1 Q) : Wp (dSeq a b) S st Q := by
  unfold Wp
  rw [dSeq_nx h]
  exact k
theorem wp_set {i : Nat} (h : de S st = .ok x st1) (k : Wp b (S.set i (some x)) st1 Q) : Wp (dSeq (dSet i de) b) S st Q := wp_nx (dSet_ok h) k
theorem wp_set' {i : Nat} (h : de S st = .ok x st1) (k : Q (.nx (S.set i (some x)) st1)) : Wp (dSet i de) S st Q := by
  unfold Wp; rw [dSet_ok h]; exact k
theorem wp_expr (h : de S st = .ok x st1) (k : Wp b S st1 Q) : Wp (dSeq (dExpr de) b) S st Q := wp_nx (dExpr_ok h) k
theorem wp_expr' (h : de S st = .ok x st1) (k : Q (.nx S st1)) : Wp (dExpr de) S st Q := by
  unfold Wp; rw [dExpr_ok h]; exact k
theorem wp_next (k : Wp b S st Q) : Wp (dSeq dNext b) S st Q := wp_nx rfl k
theorem wp_next' (k : Q (.nx S st)) : Wp dNext S st Q := k
theorem wp_assoc (k : Wp (dSeq a (dSeq b r)) S st Q) : Wp (dSeq (dSeq a b) r) S st Q := by
  rw [dSeq_assoc]; exact k
theorem wp_if {t : DT} {c : Bool} (h : t S st = .ok c st1) (kt : c = true → Wp (dSeq a r) S st1 Q) (kf : c = false → Wp (dSeq b r) S st1 Q) : Wp (dSeq (dIf t a b) r) S st Q := by
  cases c with
  | true =>
    have e : dSeq (dIf t a b) r S st = dSeq a r S st1 := by unfold dSeq; rw [dIf_t h]
    unfold Wp; rw [e]; exact kt rfl
  | false =>
    have e : dSeq (dIf t a b) r S st = dSeq b r S st1 := by unfold dSeq; rw [dIf_f h]
    unfold Wp; rw [e]; exact kf rfl
theorem wp_if' {t : DT} {c : Bool} (h : t S st = .ok c st1) (kt : c = true → Wp a S st1 Q) (kf : c = false → Wp b S st1 Q) : Wp (dIf t a b) S st Q := by
  cases c with
  | true => unfold Wp; rw [dIf_t h]; exact kt rfl
  | false => unfold Wp; rw [dIf_f h]; exact kf rfl
theorem wp_ret (h : de S st = .ok x st1) (k : Q (.rt x st1)) : Wp (dRet de) S st Q := by
  unfold Wp; rw [dRet_ok h]; exact k
theorem wp_retS (h : de S st = .ok x st1) (k : Q (.rt x st1)) : Wp (dSeq (dRet de) b) S st Q := by
  unfold Wp; rw [dSeq_rt (dRet_ok h)]; exact k
theorem wp_retN (k : Q (.rt (.v .non false) st)) : Wp dRetN S st Q := k
theorem wp_break (k : Q (.bk S st)) : Wp dBreak S st Q := k
theorem wp_breakS (k : Q (.bk S st)) : Wp (dSeq dBreak b) S st Q := k
theorem wp_cont (k : Q (.ct S st)) : Wp dCont S st Q := k
theorem wp_contS (k : Q (.ct S st)) : Wp (dSeq dCont b) S st Q := k
theorem wp_raise {C : Nat} (k : Q (.ex ⟨C, []⟩ S st)) : Wp (dRaise C) S st Q := k
theorem wp_raiseS {C : Nat} (k : Q (.ex ⟨C, []⟩ S st)) : Wp (dSeq (dRaise C) b) S st Q := k
theorem dAsg_ok {tg : DG} (h : de S st = .ok x st1) (e : tg x S = some S1) : dAsg de tg S st = .nx S1 st1 := by
  unfold dAsg
  rw [h]
  show (match tg x S with
    | some S' => A.Flow.nx S' st1
    | none => .bad) = _
  rw [e]
theorem wp_asg {tg : DG} (h : de S st = .ok x st1) (e : tg x S = some S1) (k : Wp b S1 st1 Q) : Wp (dSeq (dAsg de tg) b) S st Q := wp_nx (dAsg_ok h e) k
theorem dAug_ok {neg : Bool} {i : Nat} {u w : Int} {f g : Bool} (h : S[i]? = some (some (.v (.int u) f))) (k : de S st = .ok (.v (.int w) g) st1) : dAug neg i de S st = .nx (S.set i (some (.v (.int (bif neg then u - w else u + w)) false))) st1 := by
  unfold dAug
  rw [h]
  show ((de S st).flow S _) = _
  rw [k]
  rfl
theorem wp_aug {i : Nat} {u w : Int} {f g : Bool} (h : S[i]? = some (some (.v (.int u) f))) (h2 : de S st = .ok (.v (.int w) g) st1) (k : Wp b (S.set i (some (.v (.int (u + w)) false))) st1 Q) : Wp (dSeq (dAug false i de) b) S st Q := wp_nx (dAug_ok h h2) k
theorem wp_augN {i : Nat} {u w : Int} {f g : Bool} (h : S[i]? = some (some (.v (.int u) f))) (h2 : de S st = .ok (.v (.int w) g) st1) (k : Wp b (S.set i (some (.v (.int (u - w)) false))) st1 Q) : Wp (dSeq (dAug true i de) b) S st Q := wp_nx (dAug_ok h h2) k
theorem wp_aug' {i : Nat} {u w : Int} {f g : Bool} (h : S[i]? = some (some (.v (.int u) f))) (h2 : de S st = .ok (.v (.int w) g) st1) (k : Q (.nx (S.set i (some (.v (.int (u + w)) false))) st1)) : Wp (dAug false i de) S st Q := by
  unfold Wp; rw [dAug_ok h h2]; exact k
theorem forE_at {tg : DG} {p : PV} {fr : Bool} {xs : List AV} (h : de S st = .ok (.v p fr) st1) (hx : itemsV (.v p fr) = some xs) : dForE de tg b S st = forL tg b xs S st1 := by
  unfold dForE
  rw [h]
  show (match itemsV (.v p fr) with
    | some xs => forL tg b xs S st1
    | none => .bad) = _
  rw [hx]
theorem dFor_ok {it : DA} {tg : DG} {S2 : Slots} {xs : List AV} (h : it S st = .ok xs st1) (e : forL tg b xs S st1 = .nx S2 st2) : dFor it tg b S st = .nx S2 st2 := (dFor_at h).trans e
theorem wp_for {it : DA} {tg : DG} {S2 : Slots} {xs : List AV} (h : it S st = .ok xs st1) (e : forL tg b xs S st1 = .nx S2 st2) (k : Wp r S2 st2 Q) : Wp (dSeq (dFor it tg b) r) S st Q := wp_nx (dFor_ok h e) k
theorem wp_for' {it : DA} {tg : DG} {S2 : Slots} {xs : List AV} (h : it S st = .ok xs st1) (e : forL tg b xs S st1 = .nx S2 st2) (k : Q (.nx S2 st2)) : Wp (dFor it tg b) S st Q := by
  unfold Wp; rw [dFor_ok h e]; exact k
/-- a walk over a list that nobody changes -/
theorem wp_forE {α : Type} {tg : DG} {S2 : Slots} {t fr : Bool} {enc : α → PV} {ys : List α} (h : de S st = .ok (.v (.lst t (ys.map enc)) fr) st1) (e : forL tg b (ys.map fun y => .v (enc y) false) S st1 = .nx S2 st2) (k : Wp r S2 st2 Q) : Wp (dSeq (dForE de tg b) r) S st Q :=
  wp_nx ((forE_at h (by show some ((ys.map enc).map (AV.v · false)) = _; rw [List.map_map]; rfl)).trans e) k
theorem wp_forE' {α : Type} {tg : DG} {S2 : Slots} {t fr : Bool} {enc : α → PV} {ys : List α} (h : de S st = .ok (.v (.lst t (ys.map enc)) fr) st1) (e : forL tg b (ys.map fun y => .v (enc y) false) S st1 = .nx S2 st2) (k : Q (.nx S2 st2)) : Wp (dForE de tg b) S st Q := by
  unfold Wp
  rw [(forE_at (tg := tg) (b := b) h (show itemsV (.v (.lst t (ys.map enc)) fr) = some (ys.map fun y => .v (enc y) false) by show some ((ys.map enc).map (AV.v · false)) = _; rw [List.map_map]; rfl)).trans e]
  exact k
theorem wp_run {N : Nat} {ps : List PV} {R : PRes → Prop} (h : Wp d (slots0 N (ps.map (AV.v · false))) [] fun f => ∃ p fr st1, f = .rt (.v p fr) st1 ∧ R (.ok p fr)) : R (runP N d ps) := by
  obtain ⟨p, fr, st1, e, k⟩ := h
  rw [runP_v e]
  exact k
theorem wp_ex {N : Nat} {ps : List PV} {R : PRes → Prop} (h : Wp d (slots0 N (ps.map (AV.v · false))) [] fun f => ∃ e S1 st1, f = .ex e S1 st1 ∧ R (.ex e)) : R (runP N d ps) := by
  obtain ⟨e, S1, st1, q, k⟩ := h
  unfold runP
  rw [q]
  exact k
end
theorem gU_pair {i j : Nat} {a b : PV} {f : Bool} {S : Slots} : gU 2 (gC (gN i) (gC (gN j) gE)) (.v (.tup [a, b]) f) S = some ((S.set i (some (.v a false))).set j (some (.v b false))) := rfl
theorem gU_three {i j k : Nat} {a b c : PV} {f : Bool} {S : Slots} : gU 3 (gC (gN i) (gC (gN j) (gC (gN k) gE))) (.v (.tup [a, b, c]) f) S = some (((S.set i (some (.v a false))).set j (some (.v b false))).set k (some (.v c false))) := rfl
theorem gU_four {i j k l : Nat} {a b c d : PV} {f : Bool} {S : Slots} : gU 4 (gC (gN i) (gC (gN j) (gC (gN k) (gC (gN l) gE)))) (.v (.tup [a, b, c, d]) f) S = some ((((S.set i (some (.v a false))).set j (some (.v b false))).set k (some (.v c false))).set l (some (.v d false))) := rfl
/-- n - 1, .., 0 -/
def down : Nat → List Nat
  | 0 => []
  | n + 1 => n :: down n
theorem rangeC_down : ∀ n : Nat, rangeC ((n : Int) - 1) (-1) n = (down n).map fun (i : Nat) => .v (.int (i : Int)) false
  | 0 => rfl
  | n + 1 => by
    have ih := rangeC_down n
    unfold rangeC at ih ⊢
    rw [List.range_succ_eq_map, List.map_cons, List.map_map, down, List.map_cons, ← ih]
    congr 1
    · rw [show ((n + 1 : Nat) : Int) - 1 + ((0 : Nat) : Int) * -1 = (n : Int) by omega]
    · refine List.map_congr_left fun i _ => ?_
      show AV.v (.int (((n + 1 : Nat) : Int) - 1 + ((i + 1 : Nat) : Int) * -1)) false = _
      rw [show ((n + 1 : Nat) : Int) - 1 + ((i + 1 : Nat) : Int) * -1 = (n : Int) - 1 + (i : Int) * -1 by omega]
theorem range3_at {da : DA} {S : Slots} {st st1 : Store} {n : Nat} {f g h : Bool} (e : da S st = .ok [.v (.int ((n : Int) - 1)) f, .v (.int (-1)) g, .v (.int (-1)) h] st1) (l : n ≤ 1000000) : dRange3 da S st = .ok ((down n).map fun (i : Nat) => .v (.int (i : Int)) false) st1 := by
  have b1 : bnd ((n : Int) - 1) = true := by
    unfold bnd
    rw [Bool.and_eq_true]
    exact ⟨decide_eq_true (by omega), decide_eq_true (by omega)⟩
  have b2 : bnd (-1) = true := by decide
  unfold dRange3
  rw [e]
  show (bif bnd ((n : Int) - 1) && bnd (-1) && decide ((-1 : Int) = -1) then Res.ok (rangeC ((n : Int) - 1) (-1) ((n : Int) - 1 - -1).toNat) st1 else .bad) = _
  rw [b1, b2, show ((n : Int) - 1 - -1).toNat = n by omega, rangeC_down]
  rfl
theorem wp_ok {N : Nat} {d : DS} {ps : List PV} {P : PV → Bool → Prop} (h : Wp d (slots0 N (ps.map (AV.v · false))) [] fun f => ∃ p fr st1, f = .rt (.v p fr) st1 ∧ P p fr) : ∃ p fr, runP N d ps = .ok p fr ∧ P p fr := by
  obtain ⟨p, fr, st1, e, k⟩ := h
  exact ⟨p, fr, runP_v e, k⟩
/-- what comes back is a place of the store: it is handed over as data -/
theorem wp_ok' {N : Nat} {d : DS} {ps : List PV} {P : PV → Bool → Prop} (h : Wp d (slots0 N (ps.map (AV.v · false))) [] fun f => ∃ x p fr st1, f = .rt x st1 ∧ freeze st1 x = .ok p fr ∧ P p fr) : ∃ p fr, runP N d ps = .ok p fr ∧ P p fr := by
  obtain ⟨x, p, fr, st1, e, k, l⟩ := h
  refine ⟨p, fr, ?_, l⟩
  unfold runP
  rw [e]
  exact k
theorem atLast {α : Type} {ps : List α} {p : α} : L2.atI (ps ++ [p]) (-1) = some p := by
  have e : L2.ixN (ps ++ [p]).length (-1) = some ps.length := by
    unfold L2.ixN
    rw [List.length_append]
    have h1 : ¬ (0 : Int) ≤ -1 := by decide
    have h2 : -((ps.length + [p].length : Nat) : Int) ≤ -1 := by simp; omega
    rw [if_neg h1, if_pos h2]
    have : (-1 + ((ps.length + [p].length : Nat) : Int)).toNat = ps.length := by simp; omega
    rw [this]
  unfold L2.atI
  rw [e]
  simp
/-! loops over data -/
/-- what a loop's body does to an invariant -/
abbrev turn (I J : Slots → Store → Prop) (R : A.Flow → Prop) : A.Flow → Prop := fun f => match f with
  | .nx S st => I S st
  | .ct S st => I S st
  | .bk S st => J S st
  | r => R r
theorem forL_at {tg : DG} {b : DS} {x : AV} {xs : List AV} {S S1 : Slots} {st : Store} (h : tg x S = some S1) : forL tg b (x :: xs) S st = match (b S1 st : A.Flow) with
    | .nx S' st' => forL tg b xs S' st'
    | .ct S' st' => forL tg b xs S' st'
    | .bk S' st' => .nx S' st'
    | r => r := by
  show (match tg x S with
    | none => A.Flow.bad
    | some S1 => match b S1 st with
      | .nx S' st' => forL tg b xs S' st'
      | .ct S' st' => forL tg b xs S' st'
      | .bk S' st' => .nx S' st'
      | r => r) = _
  rw [h]
/-- a walk over data: I: what holds ahead of a turn; J: behind it (also behind a break); R: what ends it -/
theorem forL_inv {α : Type} {tg : DG} {b : DS} (enc : α → AV) (I : List α → List α → Slots → Store → Prop) (J : Slots → Store → Prop) (R : A.Flow → Prop) : ∀ (todo done : List α) (S : Slots) (st : Store), I done todo S st →
    (∀ done S st, I done [] S st → J S st) →
    (∀ done y todo S st, I done (y :: todo) S st → ∃ S1, tg (enc y) S = some S1 ∧ Wp b S1 st (turn (I (done ++ [y]) todo) J fun f => (∀ S st, f ≠ .nx S st) ∧ R f)) →
    (∃ S' st', forL tg b (todo.map enc) S st = .nx S' st' ∧ J S' st') ∨ ((∀ S' st', forL tg b (todo.map enc) S st ≠ .nx S' st') ∧ R (forL tg b (todo.map enc) S st))
  | [], done, S, st, h, hj, _ => .inl ⟨S, st, rfl, hj _ _ _ h⟩
  | y :: todo, done, S, st, h, hj, hs => by
    obtain ⟨S1, h1, h2⟩ := hs done y todo S st h
    rw [List.map_cons, forL_at h1]
    unfold Wp at h2
    cases e : b S1 st with
    | nx S' st' => rw [e] at h2; exact forL_inv enc I J R todo (done ++ [y]) S' st' h2 hj hs
    | ct S' st' => rw [e] at h2; exact forL_inv enc I J R todo (done ++ [y]) S' st' h2 hj hs
    | bk S' st' => rw [e] at h2; exact .inl ⟨S', st', rfl, h2⟩
    | rt v st' => rw [e] at h2; exact .inr h2
    | ex v S' st' => rw [e] at h2; exact .inr h2
    | bad => rw [e] at h2; exact .inr h2
/-- a walk that goes to its end -/
theorem forL_all {α : Type} {tg : DG} {b : DS} (enc : α → AV) (I : List α → List α → Slots → Store → Prop) (ys : List α) (S : Slots) (st : Store) (h : I [] ys S st)
    (hs : ∀ done y todo S st, done ++ y :: todo = ys → I done (y :: todo) S st → ∃ S1, tg (enc y) S = some S1 ∧ Wp b S1 st (turn (I (done ++ [y]) todo) (fun _ _ => False) fun _ => False)) :
    ∃ S' st', forL tg b (ys.map enc) S st = .nx S' st' ∧ I ys [] S' st' := by
  have := forL_inv (tg := tg) (b := b) enc (fun done todo S st => done ++ todo = ys ∧ I done todo S st) (fun S st => I ys [] S st) (fun _ => False) ys [] S st ⟨rfl, h⟩ (fun done S st q => by
      have e := q.1
      rw [List.append_nil] at e
      rw [← e]; rw [e] at q
      exact e ▸ q.2) (fun done y todo S st q => by
      obtain ⟨S1, h1, h2⟩ := hs done y todo S st q.1 q.2
      refine ⟨S1, h1, ?_⟩
      unfold Wp at h2 ⊢
      have e : (done ++ [y]) ++ todo = ys := by rw [List.append_assoc]; exact q.1
      cases k : b S1 st with
      | nx S' st' => rw [k] at h2; exact ⟨e, h2⟩
      | ct S' st' => rw [k] at h2; exact ⟨e, h2⟩
      | bk S' st' => rw [k] at h2; exact h2.elim
      | rt v st' => rw [k] at h2; exact h2.elim
      | ex v S' st' => rw [k] at h2; exact h2.elim
      | bad => rw [k] at h2; exact h2.elim)
  rcases this with q | q
  · exact q
  · exact q.2.elim
/-- a walk in one go: I: what holds ahead of a turn; J: behind the walk (also behind a break); exits: what the whole asks -/
theorem forL_go {α : Type} {tg : DG} {b : DS} {S : Slots} {st : Store} {Q : A.Flow → Prop} (enc : α → AV) (ys : List α) (I : List α → List α → Slots → Store → Prop) (J : Slots → Store → Prop)
    (h0 : I [] ys S st) (hj : ∀ S st, I ys [] S st → J S st)
    (hs : ∀ done y todo S st, done ++ y :: todo = ys → I done (y :: todo) S st → ∃ S1, tg (enc y) S = some S1 ∧ Wp b S1 st (turn (I (done ++ [y]) todo) J fun f => (∀ S st, f ≠ .nx S st) ∧ Q f)) :
    (∃ S' st', forL tg b (ys.map enc) S st = .nx S' st' ∧ J S' st') ∨ ((∀ S' st', forL tg b (ys.map enc) S st ≠ .nx S' st') ∧ Q (forL tg b (ys.map enc) S st)) := by
  refine forL_inv enc (fun done todo S st => done ++ todo = ys ∧ I done todo S st) J Q ys [] S st ⟨rfl, h0⟩ (fun done S st q => ?_) (fun done y todo S st q => ?_)
  · have e := q.1
    rw [List.append_nil] at e
    rw [e] at q
    exact hj _ _ q.2
  · obtain ⟨S1, h1, h2⟩ := hs done y todo S st q.1 q.2
    refine ⟨S1, h1, ?_⟩
    unfold Wp at h2 ⊢
    have e : (done ++ [y]) ++ todo = ys := by rw [List.append_assoc]; exact q.1
    cases k : b S1 st with
    | nx S' st' => rw [k] at h2; exact ⟨e, h2⟩
    | ct S' st' => rw [k] at h2; exact ⟨e, h2⟩
    | bk S' st' => rw [k] at h2; exact h2
    | rt v st' => rw [k] at h2; exact h2
    | ex v S' st' => rw [k] at h2; exact h2
    | bad => rw [k] at h2; exact h2
theorem seq_exit {a b : DS} {S : Slots} {st : Store} (h : ∀ S' st', a S st ≠ .nx S' st') : dSeq a b S st = a S st := by
  unfold dSeq
  cases e : a S st with
  | nx S' st' => exact absurd e (h _ _)
  | _ => rfl
section
variable {b r : DS} {S : Slots} {st st1 : Store} {Q : A.Flow → Prop} {de : DE}
theorem wp_of_for {a : DS} {J : Slots → Store → Prop} (h : (∃ S' st', a S st = .nx S' st' ∧ J S' st') ∨ ((∀ S' st', a S st ≠ .nx S' st') ∧ Q (a S st))) (k : ∀ S' st', J S' st' → Wp r S' st' Q) : Wp (dSeq a r) S st Q := by
  rcases h with ⟨S', st', e, j⟩ | ⟨n, q⟩
  · exact wp_nx e (k _ _ j)
  · unfold Wp
    rw [seq_exit n]
    exact q
theorem wp_of_for' {a : DS} {J : Slots → Store → Prop} (h : (∃ S' st', a S st = .nx S' st' ∧ J S' st') ∨ ((∀ S' st', a S st ≠ .nx S' st') ∧ Q (a S st))) (k : ∀ S' st', J S' st' → Q (.nx S' st')) : Wp a S st Q := by
  unfold Wp
  rcases h with ⟨S', st', e, j⟩ | ⟨n, q⟩
  · rw [e]; exact k _ _ j
  · exact q
variable {α : Type} {tg : DG} {t fr : Bool}
/-- for .. in a list as data -/
theorem wp_forJ (enc : α → PV) (ys : List α) (I : List α → List α → Slots → Store → Prop) (J : Slots → Store → Prop) (h : de S st = .ok (.v (.lst t (ys.map enc)) fr) st1) (h0 : I [] ys S st1) (hj : ∀ S st, I ys [] S st → J S st)
    (hs : ∀ done y todo S st, done ++ y :: todo = ys → I done (y :: todo) S st → ∃ S1, tg (.v (enc y) false) S = some S1 ∧ Wp b S1 st (turn (I (done ++ [y]) todo) J fun f => (∀ S st, f ≠ .nx S st) ∧ Q f))
    (k : ∀ S' st', J S' st' → Wp r S' st' Q) : Wp (dSeq (dForE de tg b) r) S st Q := by
  refine wp_of_for (J := J) ?_ k
  rw [forE_at (tg := tg) (b := b) h (show itemsV (.v (.lst t (ys.map enc)) fr) = some (ys.map fun y => .v (enc y) false) by show some ((ys.map enc).map (AV.v · false)) = _; rw [List.map_map]; rfl)]
  exact forL_go (fun y => .v (enc y) false) ys I J h0 hj hs
theorem wp_forJ' (enc : α → PV) (ys : List α) (I : List α → List α → Slots → Store → Prop) (J : Slots → Store → Prop) (h : de S st = .ok (.v (.lst t (ys.map enc)) fr) st1) (h0 : I [] ys S st1) (hj : ∀ S st, I ys [] S st → J S st)
    (hs : ∀ done y todo S st, done ++ y :: todo = ys → I done (y :: todo) S st → ∃ S1, tg (.v (enc y) false) S = some S1 ∧ Wp b S1 st (turn (I (done ++ [y]) todo) J fun f => (∀ S st, f ≠ .nx S st) ∧ Q f))
    (k : ∀ S' st', J S' st' → Q (.nx S' st')) : Wp (dForE de tg b) S st Q := by
  refine wp_of_for' (J := J) ?_ k
  rw [forE_at (tg := tg) (b := b) h (show itemsV (.v (.lst t (ys.map enc)) fr) = some (ys.map fun y => .v (enc y) false) by show some ((ys.map enc).map (AV.v · false)) = _; rw [List.map_map]; rfl)]
  exact forL_go (fun y => .v (enc y) false) ys I J h0 hj hs
/-- the walk goes to its end -/
theorem wp_forI (enc : α → PV) (ys : List α) (I : List α → List α → Slots → Store → Prop) (h : de S st = .ok (.v (.lst t (ys.map enc)) fr) st1) (h0 : I [] ys S st1)
    (hs : ∀ done y todo S st, done ++ y :: todo = ys → I done (y :: todo) S st → ∃ S1, tg (.v (enc y) false) S = some S1 ∧ Wp b S1 st (turn (I (done ++ [y]) todo) (I ys []) fun f => (∀ S st, f ≠ .nx S st) ∧ Q f))
    (k : ∀ S' st', I ys [] S' st' → Wp r S' st' Q) : Wp (dSeq (dForE de tg b) r) S st Q := wp_forJ enc ys I (I ys []) h h0 (fun _ _ h => h) hs k
theorem wp_forI' (enc : α → PV) (ys : List α) (I : List α → List α → Slots → Store → Prop) (h : de S st = .ok (.v (.lst t (ys.map enc)) fr) st1) (h0 : I [] ys S st1)
    (hs : ∀ done y todo S st, done ++ y :: todo = ys → I done (y :: todo) S st → ∃ S1, tg (.v (enc y) false) S = some S1 ∧ Wp b S1 st (turn (I (done ++ [y]) todo) (I ys []) fun f => (∀ S st, f ≠ .nx S st) ∧ Q f))
    (k : ∀ S' st', I ys [] S' st' → Q (.nx S' st')) : Wp (dForE de tg b) S st Q := wp_forJ' enc ys I (I ys []) h h0 (fun _ _ h => h) hs k
/-- for .. in a tuple -/
theorem wp_forT (enc : α → PV) (ys : List α) (I : List α → List α → Slots → Store → Prop) (h : de S st = .ok (.v (.tup (ys.map enc)) fr) st1) (h0 : I [] ys S st1)
    (hs : ∀ done y todo S st, done ++ y :: todo = ys → I done (y :: todo) S st → ∃ S1, tg (.v (enc y) false) S = some S1 ∧ Wp b S1 st (turn (I (done ++ [y]) todo) (I ys []) fun f => (∀ S st, f ≠ .nx S st) ∧ Q f))
    (k : ∀ S' st', I ys [] S' st' → Wp r S' st' Q) : Wp (dSeq (dForE de tg b) r) S st Q := by
  refine wp_of_for (J := I ys []) ?_ k
  rw [forE_at (tg := tg) (b := b) h (show itemsV (.v (.tup (ys.map enc)) fr) = some (ys.map fun y => .v (enc y) false) by show some ((ys.map enc).map (AV.v · false)) = _; rw [List.map_map]; rfl)]
  exact forL_go (fun y => .v (enc y) false) ys I (I ys []) h0 (fun _ _ h => h) hs
/-- for .. in range(..), enumerate(..), .. -/
theorem wp_forD {it : DA} (enc : α → AV) (ys : List α) (I : List α → List α → Slots → Store → Prop) (h : it S st = .ok (ys.map enc) st1) (h0 : I [] ys S st1)
    (hs : ∀ done y todo S st, done ++ y :: todo = ys → I done (y :: todo) S st → ∃ S1, tg (enc y) S = some S1 ∧ Wp b S1 st (turn (I (done ++ [y]) todo) (I ys []) fun f => (∀ S st, f ≠ .nx S st) ∧ Q f))
    (k : ∀ S' st', I ys [] S' st' → Wp r S' st' Q) : Wp (dSeq (dFor it tg b) r) S st Q := by
  refine wp_of_for (J := I ys []) ?_ k
  rw [dFor_at (tg := tg) (b := b) h]
  exact forL_go enc ys I (I ys []) h0 (fun _ _ h => h) hs
theorem wp_forD' {it : DA} (enc : α → AV) (ys : List α) (I : List α → List α → Slots → Store → Prop) (h : it S st = .ok (ys.map enc) st1) (h0 : I [] ys S st1)
    (hs : ∀ done y todo S st, done ++ y :: todo = ys → I done (y :: todo) S st → ∃ S1, tg (enc y) S = some S1 ∧ Wp b S1 st (turn (I (done ++ [y]) todo) (I ys []) fun f => (∀ S st, f ≠ .nx S st) ∧ Q f))
    (k : ∀ S' st', I ys [] S' st' → Q (.nx S' st')) : Wp (dFor it tg b) S st Q := by
  refine wp_of_for' (J := I ys []) ?_ k
  rw [dFor_at (tg := tg) (b := b) h]
  exact forL_go enc ys I (I ys []) h0 (fun _ _ h => h) hs
end
/-- 0, .., n - 1 -/
theorem rangeN (n : Nat) : rangeL 0 n = (List.range n).map fun (i : Nat) => .v (.int (i : Int)) false := by
  unfold rangeL
  simp only [Int.zero_add]
theorem range1N {da : DA} {S : Slots} {st st1 : Store} {n : Nat} {fr : Bool} (h : da S st = .ok [.v (.int (n : Int)) fr] st1) (l : n ≤ 1000000) : dRange1 da S st = .ok ((List.range n).map fun (i : Nat) => .v (.int (i : Int)) false) st1 := by
  rw [range1_at h (by unfold bnd; rw [Bool.and_eq_true]; exact ⟨decide_eq_true (by omega), decide_eq_true (by omega)⟩), rangeN]
theorem fAdd_lists {t u a b : Bool} {xs ys : List PV} {st : Store} (l : xs.length + ys.length ≤ 1000000) : fAdd false (.v (.lst t xs) a) (.v (.lst u ys) b) st = .ok (.v (.lst true (xs ++ ys)) true) st := by
  have e : Nat.ble ((xs.map (AV.v · false)).length + (ys.map (AV.v · false)).length) 1000000 = true := Nat.ble_eq.mpr (by simp; omega)
  show (bif Nat.ble ((xs.map (AV.v · false)).length + (ys.map (AV.v · false)).length) 1000000 then newL false (xs.map (AV.v · false) ++ ys.map (AV.v · false)) st else .bad) = _
  rw [e, ← List.map_append]
  exact newL_false (toPs_pvs _)
/-! places of the store as arguments -/
theorem optAll_enc {α : Type} (enc : α → PV) (t : Bool) (st : Store) (k : Nat) : ∀ ys : List α, optAll ((ys.map fun y => AV.v (enc y) false).map (viewN t st k)) = some (ys.map enc)
  | [] => rfl
  | y :: ys => by
    have e : viewN t st k (.v (enc y) false) = some (enc y) := by cases k <;> rfl
    rw [List.map_cons, List.map_cons, e]
    show (optAll _).map (enc y :: ·) = _
    rw [optAll_enc enc t st k ys]
    rfl
theorem view_enc {α : Type} {enc : α → PV} {t : Bool} {st : Store} {n : Nat} {ys : List α} (h : st[n]? = some (.lst (ys.map fun y => .v (enc y) false))) : view t st (.ref n) = some (.lst t (ys.map enc)) := by
  show viewN t st (11 + 1) (.ref n) = _
  unfold viewN
  rw [h]
  show (optAll ((ys.map fun y => AV.v (enc y) false).map (viewN t st 11))).map (PV.lst t) = _
  rw [optAll_enc]
  rfl
theorem noBors_map {α : Type} {enc : α → PV} : ∀ {ys : List α}, (∀ y ∈ ys, noBor (enc y) = true) → noBors (ys.map enc) = true
  | [], _ => rfl
  | y :: ys, h => by
    rw [List.map_cons]
    show (noBor (enc y) && noBors (ys.map enc)) = true
    rw [h y List.mem_cons_self, noBors_map fun z hz => h z (List.mem_cons_of_mem _ hz)]
    rfl
theorem noBor_lst {α : Type} {enc : α → PV} {ys : List α} (h : ∀ y, noBor (enc y) = true) : noBor (.lst true (ys.map enc)) = true := by
  show (true && noBors (ys.map enc)) = true
  rw [noBors_map fun y _ => h y]
  rfl
theorem freeze_enc {α : Type} {enc : α → PV} {st : Store} {n : Nat} {ys : List α} (h : st[n]? = some (.lst (ys.map fun y => .v (enc y) false))) : freeze st (.ref n) = .ok (.lst true (ys.map enc)) true := by
  have v : viewN true st 12 (.ref n) = some (.lst true (ys.map enc)) := view_enc h
  show (match viewN true st 12 (.ref n) with
    | some (.lst t xs) => PRes.ok (.lst t xs) (match st[n]? with
      | some (.lst ys) => (toPs ys).isSome
      | _ => false)
    | some p => .ok p false
    | none => .bad) = _
  rw [v, h]
  show PRes.ok (.lst true (ys.map enc)) (toPs (ys.map fun y => .v (enc y) false)).isSome = _
  rw [toPs_map]
  rfl
section
variable {α : Type} {enc : α → PV} {ys : List α} {st : Store} {n : Nat} {den : PDen} {p a b c : PV} {fr f1 f2 f3 : Bool}
theorem cR1 (h : st[n]? = some (.lst (ys.map fun y => .v (enc y) false))) (h2 : den [.lst false (ys.map enc)] = .ok p fr) (h3 : noBor p = true) : callP den [.ref n] st = .ok (.v p fr) st :=
  cPw rfl (by show (optAll [view false st (.ref n)]) = _; rw [view_enc h]; rfl) h2 h3
theorem cR2a (h : st[n]? = some (.lst (ys.map fun y => .v (enc y) false))) (h2 : den [.lst false (ys.map enc), a] = .ok p fr) (h3 : noBor p = true) : callP den [.ref n, .v a f1] st = .ok (.v p fr) st :=
  cPw rfl (by show (optAll [view false st (.ref n), some a]) = _; rw [view_enc h]; rfl) h2 h3
theorem cR2b (h : st[n]? = some (.lst (ys.map fun y => .v (enc y) false))) (h2 : den [a, .lst false (ys.map enc)] = .ok p fr) (h3 : noBor p = true) : callP den [.v a f1, .ref n] st = .ok (.v p fr) st :=
  cPw rfl (by show (optAll [some a, view false st (.ref n)]) = _; rw [view_enc h]; rfl) h2 h3
theorem cR3a (h : st[n]? = some (.lst (ys.map fun y => .v (enc y) false))) (h2 : den [.lst false (ys.map enc), a, b] = .ok p fr) (h3 : noBor p = true) : callP den [.ref n, .v a f1, .v b f2] st = .ok (.v p fr) st :=
  cPw rfl (by show (optAll [view false st (.ref n), some a, some b]) = _; rw [view_enc h]; rfl) h2 h3
theorem cU1 {ps : List PV} {t : Bool} (h2 : den [a] = .ok (.lst t ps) true) : callU den [.v a f1] st = .ok (.ref st.length) (st ++ [.lst (ps.map (AV.v · false))]) := cU rfl h2
theorem cU2 {ps : List PV} {t : Bool} (h2 : den [a, b] = .ok (.lst t ps) true) : callU den [.v a f1, .v b f2] st = .ok (.ref st.length) (st ++ [.lst (ps.map (AV.v · false))]) := cU rfl h2
theorem cU3 {ps : List PV} {t : Bool} (h2 : den [a, b, c] = .ok (.lst t ps) true) : callU den [.v a f1, .v b f2, .v c f3] st = .ok (.ref st.length) (st ++ [.lst (ps.map (AV.v · false))]) := cU rfl h2
theorem cU1e {t : Bool} (h2 : den [a] = .ok (.lst t (ys.map enc)) true) : callU den [.v a f1] st = .ok (.ref st.length) (st ++ [.lst (ys.map fun y => .v (enc y) false)]) := by
  rw [cU1 h2, List.map_map]; rfl
theorem cU2e {t : Bool} (h2 : den [a, b] = .ok (.lst t (ys.map enc)) true) : callU den [.v a f1, .v b f2] st = .ok (.ref st.length) (st ++ [.lst (ys.map fun y => .v (enc y) false)]) := by
  rw [cU2 h2, List.map_map]; rfl
theorem cU3e {t : Bool} (h2 : den [a, b, c] = .ok (.lst t (ys.map enc)) true) : callU den [.v a f1, .v b f2, .v c f3] st = .ok (.ref st.length) (st ++ [.lst (ys.map fun y => .v (enc y) false)]) := by
  rw [cU3 h2, List.map_map]; rfl
theorem fClear_ok {zs : List AV} (h : lstAt st n = some zs) : fClear (.ref n) [] st = .ok (.v .non false) (st.set n (.lst [])) := by
  unfold fClear
  simp only [h]
  rfl
end
theorem map_v {α : Type} (enc : α → PV) (ys : List α) : (ys.map enc).map (AV.v · false) = ys.map fun y => .v (enc y) false := by rw [List.map_map]; rfl
/-! walks over a list of the store that stays as it is -/
theorem forR_go {α : Type} {tg : DG} {b : DS} {Q : A.Flow → Prop} {n : Nat} (enc : α → PV) (ys : List α) (I : List α → List α → Slots → Store → Prop) (J : Slots → Store → Prop)
    (hl : ∀ done todo S st, I done todo S st → lstAt st n = some (ys.map fun y => .v (enc y) false)) (hj : ∀ S st, I ys [] S st → J S st)
    (hs : ∀ done y todo S st, done ++ y :: todo = ys → I done (y :: todo) S st → ∃ S1, tg (.v (enc y) false) S = some S1 ∧ Wp b S1 st (turn (I (done ++ [y]) todo) J fun f => (∀ S st, f ≠ .nx S st) ∧ Q f)) :
    ∀ (todo done : List α) (S : Slots) (st : Store), done ++ todo = ys → I done todo S st → (∃ S' st', forR n tg b (todo.length + 1) done.length S st = .nx S' st' ∧ J S' st') ∨ ((∀ S' st', forR n tg b (todo.length + 1) done.length S st ≠ .nx S' st') ∧ Q (forR n tg b (todo.length + 1) done.length S st))
  | [], done, S, st, e, h => by
    rw [List.append_nil] at e
    subst e
    refine .inl ⟨S, st, ?_, hj _ _ h⟩
    have e1 : (done.map fun y => AV.v (enc y) false)[done.length]? = none := by rw [List.getElem?_eq_none_iff]; simp
    unfold forR
    rw [hl _ _ _ _ h]
    simp only [e1]
  | y :: todo, done, S, st, e, h => by
    obtain ⟨S1, h1, h2⟩ := hs done y todo S st e h
    have e1 : (ys.map fun y => AV.v (enc y) false)[done.length]? = some (.v (enc y) false) := by rw [← e]; simp
    have e2 : A.strip (.v (enc y) false) = .v (enc y) false := rfl
    have st1 : forR n tg b ((y :: todo).length + 1) done.length S st = match b S1 st with
        | .nx S' st' => forR n tg b (todo.length + 1) (done ++ [y]).length S' st'
        | .ct S' st' => forR n tg b (todo.length + 1) (done ++ [y]).length S' st'
        | .bk S' st' => .nx S' st'
        | r => r := by
      conv => lhs; unfold forR
      rw [hl _ _ _ _ h]
      simp only [e1, e2, h1, List.length_append, List.length_cons, List.length_nil, Nat.zero_add]
      all_goals (cases b S1 st <;> rfl)
    rw [st1]
    unfold Wp at h2
    have e3 : (done ++ [y]) ++ todo = ys := by rw [List.append_assoc]; exact e
    cases k : b S1 st with
    | nx S' st' => rw [k] at h2; exact forR_go enc ys I J hl hj hs todo (done ++ [y]) S' st' e3 h2
    | ct S' st' => rw [k] at h2; exact forR_go enc ys I J hl hj hs todo (done ++ [y]) S' st' e3 h2
    | bk S' st' => rw [k] at h2; exact .inl ⟨S', st', rfl, h2⟩
    | rt v st' => rw [k] at h2; exact .inr h2
    | ex v S' st' => rw [k] at h2; exact .inr h2
    | bad => rw [k] at h2; exact .inr h2
section
variable {b r : DS} {S : Slots} {st st1 : Store} {Q : A.Flow → Prop} {de : DE} {α : Type} {tg : DG} {n : Nat}
theorem forE_ref {ys : List AV} (h : de S st = .ok (.ref n) st1) (hx : lstAt st1 n = some ys) : dForE de tg b S st = forR n tg b (ys.length + 1) 0 S st1 := by
  unfold dForE
  rw [h]
  show forR n tg b (turnsAt st1 n) 0 S st1 = _
  unfold turnsAt
  rw [hx]
theorem wp_forR (enc : α → PV) (ys : List α) (I : List α → List α → Slots → Store → Prop) (h : de S st = .ok (.ref n) st1) (h0 : I [] ys S st1)
    (hl : ∀ done todo S st, I done todo S st → lstAt st n = some (ys.map fun y => .v (enc y) false))
    (hs : ∀ done y todo S st, done ++ y :: todo = ys → I done (y :: todo) S st → ∃ S1, tg (.v (enc y) false) S = some S1 ∧ Wp b S1 st (turn (I (done ++ [y]) todo) (I ys []) fun f => (∀ S st, f ≠ .nx S st) ∧ Q f))
    (k : ∀ S' st', I ys [] S' st' → Wp r S' st' Q) : Wp (dSeq (dForE de tg b) r) S st Q := by
  refine wp_of_for (J := I ys []) ?_ k
  rw [forE_ref (tg := tg) (b := b) h (hl _ _ _ _ h0), List.length_map]
  exact forR_go enc ys I (I ys []) hl (fun _ _ h => h) hs ys [] S st1 rfl h0
theorem wp_forR' (enc : α → PV) (ys : List α) (I : List α → List α → Slots → Store → Prop) (h : de S st = .ok (.ref n) st1) (h0 : I [] ys S st1)
    (hl : ∀ done todo S st, I done todo S st → lstAt st n = some (ys.map fun y => .v (enc y) false))
    (hs : ∀ done y todo S st, done ++ y :: todo = ys → I done (y :: todo) S st → ∃ S1, tg (.v (enc y) false) S = some S1 ∧ Wp b S1 st (turn (I (done ++ [y]) todo) (I ys []) fun f => (∀ S st, f ≠ .nx S st) ∧ Q f))
    (k : ∀ S' st', I ys [] S' st' → Q (.nx S' st')) : Wp (dForE de tg b) S st Q := by
  refine wp_of_for' (J := I ys []) ?_ k
  rw [forE_ref (tg := tg) (b := b) h (hl _ _ _ _ h0), List.length_map]
  exact forR_go enc ys I (I ys []) hl (fun _ _ h => h) hs ys [] S st1 rfl h0
end
end A

/-! tactics that walk a denotation -/
local macro_rules | `(tactic| walk_at "a_hint") => `(tactic| assumption)
local macro_rules | `(tactic| walk_at "a_pzt") => `(tactic| assumption)
local macro_rules | `(tactic| walk_at "a_szt") => `(tactic| first
  | assumption
  | ((with_reducible apply LF.Pz.a); walk_at "a_pzt")
  | ((with_reducible apply LF.Pz.b); walk_at "a_pzt")
  | ((with_reducible apply A.Sz.l160); decide)
  | ((with_reducible apply A.Sz.mul) <;> walk_at "a_szt")
  | ((with_reducible apply A.Sz.addS) <;> walk_at "a_szt")
  | ((with_reducible apply A.Sz.subS) <;> walk_at "a_szt"))
local macro_rules | `(tactic| walk_at "a_szm") => `(tactic| first | assumption | ((with_reducible apply A.mulC_of); walk_at "a_szt"; walk_at "a_szt"; omega))
local macro_rules | `(tactic| walk_at "a_nzt") => `(tactic| first | assumption | decide | omega)
local macro_rules | `(tactic| walk_at "a_evf") => `(tactic| first
  | exact LF.ix0
  | exact LF.ix1
  | exact A.fAdd_ok
  | exact A.fSub_ok
  | ((with_reducible apply A.fMul_ok); walk_at "a_szm")
  | ((with_reducible apply A.fMod_ok); walk_at "a_nzt")
  | ((with_reducible apply A.fDiv_ok); walk_at "a_nzt")
  | exact A.fLt_ok
  | exact A.fLe_ok
  | exact A.fGt_ok
  | exact A.fGe_ok
  | exact A.fEq_int
  | exact A.fNe_int
  | exact A.eq2'
  | exact A.ne2
  | ((with_reducible apply A.fPow_ok); decide; (first | (simp only [Int.reduceToNat, Int.reducePow]; done) | (simp only [Int.reduceToNat, Int.reducePow]; exact rfl) | exact rfl))
  | ((with_reducible apply A.fIx_lst); first | assumption | walk_at "a_hint")
  | (apply A.fIx_tup; first | assumption | exact rfl)
  | ((with_reducible apply A.fIx_ref); (first | assumption | exact rfl); (first | assumption | walk_at "a_hint"))
  | walk_at "a_hint")
local macro_rules | `(tactic| walk_at "a_evc") => `(tactic| first
  | ((with_reducible apply A.cR1); exact rfl; walk_at "a_hint"; first | exact rfl | walk_at "a_hint")
  | ((with_reducible apply A.cR2a); exact rfl; walk_at "a_hint"; first | exact rfl | walk_at "a_hint")
  | ((with_reducible apply A.cR2b); exact rfl; walk_at "a_hint"; first | exact rfl | walk_at "a_hint")
  | ((with_reducible apply A.cR3a); exact rfl; walk_at "a_hint"; first | exact rfl | walk_at "a_hint")
  | ((with_reducible apply A.cU1e); walk_at "a_hint")
  | ((with_reducible apply A.cU2e); walk_at "a_hint")
  | ((with_reducible apply A.cU3e); walk_at "a_hint")
  | ((with_reducible apply A.cU1); walk_at "a_hint")
  | ((with_reducible apply A.cU2); walk_at "a_hint")
  | ((with_reducible apply A.cU3); walk_at "a_hint")
  | ((with_reducible apply A.cP1); walk_at "a_hint")
  | ((with_reducible apply A.cP2); walk_at "a_hint")
  | ((with_reducible apply A.cP3); walk_at "a_hint")
  | ((with_reducible apply A.cP4); walk_at "a_hint")
  | ((with_reducible apply A.cP0); walk_at "a_hint")
  | ((with_reducible apply A.cP5); walk_at "a_hint")
  | walk_at "a_hint")
local macro_rules | `(tactic| walk_at "a_evb") => `(tactic| first
  | exact A.fLen_lst
  | exact A.fLen_tup
  | exact A.fLen_scr
  | ((with_reducible apply A.fLen_ref); first | assumption | exact rfl)
  | exact A.fList_f
  | exact A.fList_t
  | walk_at "a_hint"
  | exact rfl)
local macro_rules | `(tactic| walk_at "a_evs") => `(tactic| first
  | exact A.dNil_ok
  | ((with_reducible apply A.dCons_ok); walk_at "a_ev"; walk_at "a_evs"))
local macro_rules | `(tactic| walk_at "a_ev") => `(tactic| first
  | exact A.dC_ok
  | ((with_reducible apply A.dVar_ok); exact rfl)
  | ((with_reducible apply A.dBin_ok); walk_at "a_ev"; walk_at "a_ev"; walk_at "a_evf")
  | ((with_reducible apply A.dArg_ok); walk_at "a_evs"; exact rfl; walk_at "a_evc")
  | ((with_reducible apply A.dB1_ok); walk_at "a_evs"; walk_at "a_evb")
  | ((with_reducible apply A.dTupF); walk_at "a_evs")
  | ((with_reducible apply A.dTup2); walk_at "a_evs")
  | ((with_reducible apply A.dTup3); walk_at "a_evs")
  | ((with_reducible apply A.dTup4); walk_at "a_evs")
  | ((with_reducible apply A.dTup1); walk_at "a_evs")
  | ((with_reducible apply A.dNeg_ok); walk_at "a_ev")
  | ((with_reducible apply A.dMeth_at); walk_at "a_ev"; (first | exact rfl | ((with_reducible apply A.isL_ref); first | assumption | exact rfl)); walk_at "a_evs"; (first | walk_at "a_hint" | ((with_reducible apply A.fAppend_ok); (first | assumption | exact rfl); (first | assumption | omega | (simp; omega)))))
  | ((with_reducible apply A.dMeth0_at); walk_at "a_ev"; (first | exact rfl | ((with_reducible apply A.isL_ref); first | assumption | exact rfl)); (first | walk_at "a_hint" | ((with_reducible apply A.fClear_ok); first | assumption | exact rfl)))
  | ((with_reducible apply A.dLst_f); walk_at "a_evs"; exact rfl; exact rfl)
  | ((with_reducible apply A.dLst_t); walk_at "a_evs"; exact rfl)
  | ((with_reducible apply A.dBV_ok); walk_at "a_tst")
  | ((with_reducible apply A.dNotV_ok); walk_at "a_ev")
  | ((with_reducible apply A.dAndV_ok); walk_at "a_ev"; intro _; walk_at "a_ev")
  | ((with_reducible apply A.dOrV_ok); walk_at "a_ev"; intro _; walk_at "a_ev")
  | ((with_reducible apply A.dChain_ok); walk_at "a_ev"; walk_at "a_ev"; walk_at "a_evf"; walk_at "a_ev"; walk_at "a_evf")
  | walk_at "a_hint")
local macro_rules | `(tactic| walk_at "a_tst") => `(tactic| first
  | ((with_reducible apply A.dB_ok'); walk_at "a_ev")
  | ((with_reducible apply A.dNot_ok'); walk_at "a_tst"; exact rfl)
  | ((with_reducible apply A.dAnd_ok); walk_at "a_tst"; intro _; walk_at "a_tst")
  | ((with_reducible apply A.dOr_ok); walk_at "a_tst"; intro _; walk_at "a_tst")
  | walk_at "a_hint")
local macro_rules | `(tactic| walk_at "a_nrm") => `(tactic| try dsimp only [List.set_cons_succ, List.set_cons_zero, List.nil_append, List.cons_append, A.strip])
local macro_rules | `(tactic| walk_at "a_wp1") => `(tactic| first
  | ((with_reducible apply A.wp_assoc))
  | ((with_reducible apply A.wp_next))
  | ((with_reducible apply A.wp_next'))
  | ((with_reducible apply A.wp_set); walk_at "a_ev"; walk_at "a_nrm")
  | ((with_reducible apply A.wp_set'); walk_at "a_ev"; walk_at "a_nrm")
  | ((with_reducible apply A.wp_aug); exact rfl; walk_at "a_ev"; walk_at "a_nrm")
  | ((with_reducible apply A.wp_aug'); exact rfl; walk_at "a_ev"; walk_at "a_nrm")
  | ((with_reducible apply A.wp_augN); exact rfl; walk_at "a_ev"; walk_at "a_nrm")
  | ((with_reducible apply A.wp_asg); walk_at "a_ev"; (first | exact A.gU_pair | exact A.gU_three | exact rfl); walk_at "a_nrm")
  | ((with_reducible apply A.wp_expr); walk_at "a_ev"; walk_at "a_nrm")
  | ((with_reducible apply A.wp_expr'); walk_at "a_ev"; walk_at "a_nrm")
  | ((with_reducible apply A.wp_ret); walk_at "a_ev")
  | ((with_reducible apply A.wp_retS); walk_at "a_ev")
  | ((with_reducible apply A.wp_breakS))
  | ((with_reducible apply A.wp_break))
  | ((with_reducible apply A.wp_contS))
  | ((with_reducible apply A.wp_cont))
  | ((with_reducible apply A.wp_raiseS))
  | ((with_reducible apply A.wp_raise)))
local macro_rules | `(tactic| walk_at "a_wp") => `(tactic| repeat walk_at "a_wp1")
local macro_rules | `(tactic| walk_at "a_wif") => `(tactic| first | ((with_reducible apply A.wp_if); walk_at "a_tst") | ((with_reducible apply A.wp_if'); walk_at "a_tst"))
local macro_rules | `(tactic| walk_at "a_slots") => `(tactic| simp only [A.slots0, List.map_cons, List.map_nil, List.length_cons, List.length_nil, List.cons_append, List.nil_append, List.replicate_succ, List.replicate_zero, A.strip, Nat.reduceAdd, Nat.reduceSub])

/-! data compared: encodings -/
namespace A
open PySem PySem.Spec PyProof.Rows L2
/-- e tells values of a type as data d, of a depth of at most k -/
structure Enc {α : Type} [DecidableEq α] (e : α → PV) (d : α → PyData) (k : Nat) : Prop where
  to : ∀ a, toD (e a) = some (d a)
  lay : ∀ a, (d a).canLay0 = true
  dep : ∀ a, (d a).depth ≤ k
  eqv : ∀ a b, PyData.eqv (d a) (d b) = decide (a = b)
theorem Enc.int : Enc PV.int PyData.int 0 := ⟨fun _ => rfl, fun _ => rfl, fun _ => Nat.le_refl _, fun a b => by simp only [PyData.eqv]; exact Bool.eq_iff_iff.mpr (by simp)⟩
theorem Enc.mono {α : Type} [DecidableEq α] {e : α → PV} {d : α → PyData} {k k' : Nat} (E : Enc e d k) (h : k ≤ k') : Enc e d k' := ⟨E.to, E.lay, fun a => Nat.le_trans (E.dep a) h, E.eqv⟩
theorem Enc.pair {α β : Type} [DecidableEq α] [DecidableEq β] {e : α → PV} {f : β → PV} {d : α → PyData} {g : β → PyData} {k : Nat} (E : Enc e d k) (F : Enc f g k) : Enc (fun p : α × β => .tup [e p.1, f p.2]) (fun p => .tuple [d p.1, g p.2]) (k + 1) where
  to := fun p => by simp [toD, toDs, E.to, F.to]
  lay := fun p => by simp [PyData.canLay0, PyData.canLayAll0, E.lay, F.lay]
  dep := fun p => by
    have := E.dep p.1
    have := F.dep p.2
    simp only [PyData.depth, PyData.depthAll]
    omega
  eqv := fun p q => by
    simp only [PyData.eqv, PyData.eqvAll, E.eqv, F.eqv, Bool.and_true]
    refine Bool.eq_iff_iff.mpr ?_
    simp [Prod.ext_iff]
theorem toDs_enc {α : Type} [DecidableEq α] {e : α → PV} {d : α → PyData} {k : Nat} (E : Enc e d k) : ∀ xs : List α, toDs (xs.map e) = some (xs.map d)
  | [] => rfl
  | x :: xs => by simp only [List.map_cons, toDs, E.to, toDs_enc E xs]
theorem layAll_enc {α : Type} [DecidableEq α] {e : α → PV} {d : α → PyData} {k : Nat} (E : Enc e d k) : ∀ xs : List α, PyData.canLayAll0 (xs.map d) = true
  | [] => rfl
  | x :: xs => by simp only [List.map_cons, PyData.canLayAll0, E.lay, layAll_enc E xs, Bool.and_self]
theorem depAll_enc {α : Type} [DecidableEq α] {e : α → PV} {d : α → PyData} {k : Nat} (E : Enc e d k) : ∀ xs : List α, PyData.depthAll (xs.map d) ≤ k
  | [] => by simp [PyData.depthAll]
  | x :: xs => by
    have := E.dep x
    have := depAll_enc E xs
    simp only [List.map_cons, PyData.depthAll]
    omega
theorem eqvAll_enc {α : Type} [DecidableEq α] {e : α → PV} {d : α → PyData} {k : Nat} (E : Enc e d k) : ∀ xs ys : List α, PyData.eqvAll (xs.map d) (ys.map d) = decide (xs = ys)
  | [], [] => rfl
  | [], _ :: _ => rfl
  | _ :: _, [] => rfl
  | x :: xs, y :: ys => by
    simp only [List.map_cons, PyData.eqvAll, E.eqv, eqvAll_enc E xs ys]
    refine Bool.eq_iff_iff.mpr ?_
    simp
theorem Enc.lst {α : Type} [DecidableEq α] {e : α → PV} {d : α → PyData} {k : Nat} (E : Enc e d k) (t : Bool) : Enc (fun xs : List α => .lst t (xs.map e)) (fun xs => .list (xs.map d)) (k + 1) where
  to := fun xs => by simp only [toD, toDs_enc E, Option.map_some]
  lay := fun xs => by simp only [PyData.canLay0]; exact layAll_enc E xs
  dep := fun xs => by
    have := depAll_enc E xs
    simp only [PyData.depth]
    omega
  eqv := fun xs ys => by simp only [PyData.eqv]; exact eqvAll_enc E xs ys
theorem Enc.tup {α : Type} [DecidableEq α] {e : α → PV} {d : α → PyData} {k : Nat} (E : Enc e d k) : Enc (fun xs : List α => .tup (xs.map e)) (fun xs => .tuple (xs.map d)) (k + 1) where
  to := fun xs => by simp only [toD, toDs_enc E, Option.map_some]
  lay := fun xs => by simp only [PyData.canLay0]; exact layAll_enc E xs
  dep := fun xs => by
    have := depAll_enc E xs
    simp only [PyData.depth]
    omega
  eqv := fun xs ys => by simp only [PyData.eqv]; exact eqvAll_enc E xs ys
theorem Enc.share : Enc Law.fr2 (fun p => .tuple [.int p.1, .int p.2]) 1 := Enc.pair Enc.int Enc.int
/-- a row of a table: a worth and its weight -/
def rowE (r : (Int × Int) × Int) : PV := .tup [Law.fr2 r.1, .int r.2]
theorem Enc.row : Enc rowE (fun r => .tuple [.tuple [.int r.1.1, .int r.1.2], .int r.2]) 2 := Enc.pair Enc.share (Enc.int.mono (by omega))
theorem dataOf_v {p : PV} {fr : Bool} {st : Store} : A.dataOf st (.v p fr) = toD p := by simp [A.dataOf, viewN]
theorem shaped_enc {α : Type} [DecidableEq α] {e : α → PV} {d : α → PyData} {k : Nat} (E : Enc e d k) (h : k ≤ 64) (a : α) : SeqAt.shaped (d a) = true := by
  unfold SeqAt.shaped
  rw [E.lay, decide_eq_true (Nat.le_trans (E.dep a) h)]
  rfl
theorem fEq_enc {α : Type} [DecidableEq α] {e e' : α → PV} {d : α → PyData} {k : Nat} (E : Enc e d k) (E' : Enc e' d k) (h : k ≤ 64) {a b : α} {f g neg : Bool} {st : Store} : fEq neg (.v (e a) f) (.v (e' b) g) st = .ok (.v (.bl (bif neg then !decide (a = b) else decide (a = b))) false) st := by
  unfold fEq
  rw [dataOf_v, dataOf_v, E.to, E'.to]
  show (bif SeqAt.shaped (d a) && SeqAt.shaped (d b) then _ else _) = _
  rw [shaped_enc E h, shaped_enc E h, E.eqv]
  rfl
/-- two tables -/
theorem fEq_rows {t u neg f g : Bool} {a b : List ((Int × Int) × Int)} {st : Store} : fEq neg (.v (.lst t (a.map rowE)) f) (.v (.lst u (b.map rowE)) g) st = .ok (.v (.bl (bif neg then !decide (a = b) else decide (a = b))) false) st := fEq_enc (Enc.lst Enc.row t) (Enc.lst Enc.row u) (by decide)
theorem fEq_shares {t u neg f g : Bool} {a b : List (Int × Int)} {st : Store} : fEq neg (.v (.lst t (a.map Law.fr2)) f) (.v (.lst u (b.map Law.fr2)) g) st = .ok (.v (.bl (bif neg then !decide (a = b) else decide (a = b))) false) st := fEq_enc (Enc.lst Enc.share t) (Enc.lst Enc.share u) (by decide)
theorem fEq_ints {t u neg f g : Bool} {a b : List Int} {st : Store} : fEq neg (.v (.lst t (a.map PV.int)) f) (.v (.lst u (b.map PV.int)) g) st = .ok (.v (.bl (bif neg then !decide (a = b) else decide (a = b))) false) st := fEq_enc (Enc.lst Enc.int t) (Enc.lst Enc.int u) (by decide)
end A
local macro_rules | `(tactic| walk_at "a_hint") => `(tactic| first | exact A.fEq_rows | exact A.fEq_shares | exact A.fEq_ints)
namespace A
open PySem PySem.Spec PyProof.Rows L2
/-! values in order -/
theorem cast_lt {a b : Int} : (a : Rat) < (b : Rat) ↔ a < b := by exact_mod_cast Iff.rfl
theorem mul_lt {x y w : Rat} (w0 : 0 < w) : x * w < y * w ↔ x < y := by
  constructor
  · intro z
    by_cases g : x < y
    · exact g
    · exfalso
      have g2 : y ≤ x := by grind
      have := Rat.mul_le_mul_of_nonneg_right g2 (c := w) (by grind)
      grind
  · intro z
    exact Rat.mul_lt_mul_of_pos_right z w0
open LF in
theorem lt_val {p q : Int × Int} (h : 0 < p.2) (k : 0 < q.2) : p.1 * q.2 < q.1 * p.2 ↔ val p < val q := by
  obtain ⟨a, b⟩ := p
  obtain ⟨c, d⟩ := q
  simp only at h k ⊢
  have hb : (0 : Rat) < (b : Rat) := by exact_mod_cast h
  have hd : (0 : Rat) < (d : Rat) := by exact_mod_cast k
  rw [← cast_lt]
  push_cast
  have e1 : val (a, b) * (b : Rat) = a := by
    show (a : Rat) / b * b = a
    grind
  have e2 : val (c, d) * (d : Rat) = c := by
    show (c : Rat) / d * d = c
    grind
  generalize val (a, b) = x at *
  generalize val (c, d) = y at *
  rw [← e1, ← e2, show x * b * d = x * (b * d : Rat) by grind, show y * d * b = y * (b * d : Rat) by grind]
  exact mul_lt (Rat.mul_pos hb hd)
end A

/-! plain lemmas: dicts whose keys are shares, mirrored -/
namespace DT
open PySem PySem.Spec PyProof.Rows L2 A
open Law (fr2)
section
variable {β : Type}
abbrev Dc (β : Type) := List ((Int × Int) × β)
def keyF (p : Int × Int) : List Key := [.inl p.1, .inl p.2]
theorem keyF_inj {p q : Int × Int} (h : keyF p = keyF q) : p = q := by
  simp only [keyF, List.cons.injEq, Sum.inl.injEq] at h
  exact Prod.ext h.1 h.2.1
def dcK (enc : β → PV) (d : Dc β) : List (List Key × AV) := d.map fun e => (keyF e.1, .v (enc e.2) false)
def dcGet (d : Dc β) (p : Int × Int) : Option β := (d.find? fun e => decide (e.1 = p)).map (·.2)
def dcPut (d : Dc β) (p : Int × Int) (s : β) : Dc β := if d.any (fun e => decide (e.1 = p)) then d.map fun e => if e.1 = p then (e.1, s) else e else d ++ [(p, s)]
theorem key_dec (p q : Int × Int) : decide (keyF p = keyF q) = decide (p = q) := by
  by_cases h : p = q
  · subst h; simp
  · have : ¬ keyF p = keyF q := fun z => h (keyF_inj z)
    simp [h, this]
theorem dcK_get (enc : β → PV) (d : Dc β) (p : Int × Int) : getT (dcK enc d) (keyF p) = (dcGet d p).map fun s => .v (enc s) false := by
  unfold getT dcGet dcK
  rw [List.find?_map, Option.map_map, Option.map_map]
  simp only [Function.comp_def, key_dec]
theorem dcK_put (enc : β → PV) (d : Dc β) (p : Int × Int) (s : β) : putT (dcK enc d) (keyF p) (.v (enc s) false) = dcK enc (dcPut d p s) := by
  unfold putT dcPut dcK
  rw [List.any_map]
  simp only [Function.comp_def, key_dec]
  split
  · rw [List.map_map, List.map_map]
    refine List.map_congr_left fun e _ => ?_
    simp only [Function.comp_def]
    by_cases h : e.1 = p
    · have : keyF e.1 = keyF p := by rw [h]
      simp [h]
    · have : ¬ keyF e.1 = keyF p := fun z => h (keyF_inj z)
      simp [h, this]
  · rw [List.map_append]; rfl
theorem tk (p : Int × Int) (f : Bool) : tupKey (.v (fr2 p) f) = some (keyF p) := rfl
theorem dcPut_keys (d : Dc β) (p : Int × Int) (s : β) : (dcPut d p s).map (·.1) = if d.any (fun e => decide (e.1 = p)) then d.map (·.1) else d.map (·.1) ++ [p] := by
  unfold dcPut
  split
  · rw [List.map_map]
    refine List.map_congr_left fun e _ => ?_
    simp only [Function.comp_def]
    split <;> simp_all
  · rw [List.map_append]; rfl
theorem dcPut_len (d : Dc β) (p : Int × Int) (s : β) : (dcPut d p s).length ≤ d.length + 1 := by
  unfold dcPut
  split <;> simp
theorem any_iff (d : Dc β) (p : Int × Int) : d.any (fun e => decide (e.1 = p)) = true ↔ p ∈ d.map (·.1) := by
  rw [List.any_eq_true, List.mem_map]
  constructor
  · rintro ⟨e, h, k⟩; exact ⟨e, h, by simpa using k⟩
  · rintro ⟨e, h, k⟩; exact ⟨e, h, by simpa using k⟩
theorem dcPut_nd {d : Dc β} {p : Int × Int} {s : β} (h : (d.map (·.1)).Nodup) : ((dcPut d p s).map (·.1)).Nodup := by
  rw [dcPut_keys]
  split
  · exact h
  · rename_i z
    rw [any_iff] at z
    refine List.nodup_append.mpr ⟨h, by simp, fun a ha b hb e => ?_⟩
    simp only [List.mem_singleton] at hb
    subst hb
    subst e
    exact z ha
theorem dcPut_new {d : Dc β} {p : Int × Int} {s : β} (h : p ∉ d.map (·.1)) : dcPut d p s = d ++ [(p, s)] := by
  unfold dcPut
  rw [if_neg (by rw [any_iff]; exact h)]
theorem mem_put {d : Dc β} {p : Int × Int} {s : β} {e : (Int × Int) × β} (h : e ∈ dcPut d p s) : e = (p, s) ∨ (e ∈ d ∧ e.1 ≠ p) := by
  unfold dcPut at h
  split at h
  · obtain ⟨e', he', rfl⟩ := List.mem_map.mp h
    split
    · rename_i q
      exact .inl (by rw [q])
    · rename_i q
      exact .inr ⟨he', q⟩
  · rename_i z
    rw [any_iff] at z
    rcases List.mem_append.mp h with q | q
    · exact .inr ⟨q, fun w => z (List.mem_map.mpr ⟨e, q, w⟩)⟩
    · exact .inl (List.mem_singleton.mp q)
theorem dcGet_mem {d : Dc β} {p : Int × Int} {s : β} (h : dcGet d p = some s) : (p, s) ∈ d := by
  unfold dcGet at h
  cases q : d.find? (fun e => decide (e.1 = p)) with
  | none => rw [q] at h; cases h
  | some e =>
    rw [q] at h
    cases h
    have q2 := List.find?_some q
    have q3 : e.1 = p := by simpa using q2
    rw [← q3]
    exact List.mem_of_find?_eq_some q
theorem dcGet_none {d : Dc β} {p : Int × Int} : dcGet d p = none ↔ p ∉ d.map (·.1) := by
  unfold dcGet
  rw [Option.map_eq_none_iff, List.find?_eq_none]
  constructor
  · intro h m
    obtain ⟨e, he, k⟩ := List.mem_map.mp m
    exact h e he (by simpa using k)
  · intro h e he k
    exact h (List.mem_map.mpr ⟨e, he, by simpa using k⟩)
theorem dcGet_of {d : Dc β} (nd : (d.map (·.1)).Nodup) {e : (Int × Int) × β} (h : e ∈ d) : dcGet d e.1 = some e.2 := by
  induction d with
  | nil => cases h
  | cons x d ih =>
    rw [List.map_cons, List.nodup_cons] at nd
    unfold dcGet
    rw [List.find?_cons]
    by_cases q : x.1 = e.1
    · have : x = e := by
        rcases List.mem_cons.mp h with z | z
        · exact z.symm
        · exact absurd (List.mem_map.mpr ⟨e, z, q.symm⟩) nd.1
      subst this
      simp
    · have hm : e ∈ d := (List.mem_cons.mp h).resolve_left fun z => q (by rw [z])
      simp only [q, decide_false]
      exact ih nd.2 hm
theorem mem_put' {d : Dc β} {p : Int × Int} {s : β} {e : (Int × Int) × β} (h : e = (p, s) ∨ (e ∈ d ∧ e.1 ≠ p)) : e ∈ dcPut d p s := by
  unfold dcPut
  split
  · rename_i z
    obtain ⟨x, hx, k⟩ := List.any_eq_true.mp z
    have k : x.1 = p := by simpa using k
    rcases h with h | ⟨h, ne⟩
    · exact List.mem_map.mpr ⟨x, hx, by simp [k, h]⟩
    · exact List.mem_map.mpr ⟨e, h, by simp [ne]⟩
  · rcases h with h | ⟨h, ne⟩
    · rw [h]; simp
    · exact List.mem_append_left _ h
theorem dcGet_put {d : Dc β} (nd : (d.map (·.1)).Nodup) (p q : Int × Int) (s : β) : dcGet (dcPut d p s) q = if q = p then some s else dcGet d q := by
  by_cases h : q = p
  · subst h
    rw [if_pos rfl]
    exact dcGet_of (e := (q, s)) (dcPut_nd nd) (mem_put' (.inl rfl))
  · rw [if_neg h]
    cases k : dcGet d q with
    | some x => exact dcGet_of (e := (q, x)) (dcPut_nd nd) (mem_put' (.inr ⟨dcGet_mem k, h⟩))
    | none =>
      rw [dcGet_none] at k ⊢
      intro z
      obtain ⟨e, he, rfl⟩ := List.mem_map.mp z
      rcases mem_put he with w | ⟨w, _⟩
      · exact h (by rw [w])
      · exact k (List.mem_map.mpr ⟨e, w, rfl⟩)
/-! walking -/
variable {enc : β → PV} {d : Dc β} {S S' : Slots} {st st1 st2 : Store} {n : Nat} {p : Int × Int} {s z : β} {f g : Bool}
theorem rd_eq {kvs : List (List Key × AV)} (h : rdAt st n = some kvs) : st[n]? = some (.dT kvs) ∨ st[n]? = some (.lk kvs) := by
  unfold rdAt at h
  split at h
  · rename_i q; cases h; exact .inl q
  · rename_i q; cases h; exact .inr q
  · cases h
theorem tget_ok {de dk dx : DE} (h1 : de S st = .ok (.ref n) st) (h2 : rdAt st n = some (dcK enc d)) (h3 : dk S st = .ok (.v (fr2 p) f) st) (h4 : dx S st = .ok (.v (enc z) false) st) : dTGet de dk dx S st = .ok (.v (enc ((dcGet d p).getD z)) false) st := by
  have e1 : isDct st (.ref n) = true := by
    rcases rd_eq h2 with q | q <;> simp [isDct, rdAt, q]
  unfold dTGet
  rw [h1]
  show (bif isDct st (.ref n) then (dk S st).then fun y st2 => (dx S st2).then fun z st3 => fTGet (.ref n) y z st3 else .bad) = _
  rw [e1, h3]
  show ((dx S st).then _) = _
  rw [h4]
  show fTGet (.ref n) (.v (fr2 p) f) (.v (enc z) false) st = _
  unfold fTGet
  simp only [tk, h2, dcK_get]
  cases dcGet d p <;> rfl
theorem tix_ok {de dk : DE} (h1 : de S st = .ok (.ref n) st) (h2 : rdAt st n = some (dcK enc d)) (h3 : dk S st = .ok (.v (fr2 p) f) st) (h4 : dcGet d p = some s) : dTIx de dk S st = .ok (.v (enc s) false) st := by
  unfold dTIx
  rw [h1]
  show ((dk S st).then _) = _
  rw [h3]
  show fTIx (.ref n) (.v (fr2 p) f) st = _
  unfold fTIx
  simp only [tk, h2, dcK_get, h4]
  rfl
theorem tput_ok {dv de dk : DE} (h1 : de S st = .ok (.ref n) st) (h2 : dctAt st n = some (dcK enc d)) (h3 : dv S st = .ok (.v (enc s) g) st) (h4 : dk S st = .ok (.v (fr2 p) f) st) (l : d.length < 1000000) : dTPut dv de dk S st = .nx S (st.set n (.dT (dcK enc (dcPut d p s)))) := by
  have lb : Nat.blt (dcK enc d).length 1000000 = true := Nat.ble_eq.mpr (by simp [dcK]; omega)
  have e : fTPut (.ref n) (.v (fr2 p) f) (.v (enc s) g) st = some (st.set n (.dT (dcK enc (dcPut d p s)))) := by
    unfold fTPut
    simp only [tk, h2, lb, cond_true, A.strip, dcK_put]
  unfold dTPut
  rw [h3]
  show ((de S st).flow S _) = _
  rw [h1]
  show ((dk S st).flow S _) = _
  rw [h4]
  show (match fTPut (.ref n) (.v (fr2 p) f) (.v (enc s) g) st with
    | some st4 => A.Flow.nx S st4
    | none => .bad) = _
  rw [e]
theorem lock_ok {i : Nat} {dl : DS} {st' : Store} {kvs kvs' : List (List Key × AV)} (h1 : S[i]? = some (some (.ref n))) (h2 : dctAt st n = some kvs) (h3 : dl S (st.set n (.lk kvs)) = .nx S' st') (h4 : lkAt st' n = some kvs') : dLock i dl S st = .nx S' (st'.set n (.dT kvs')) := by
  unfold dLock
  simp only [h1, h2, h3, h4]
theorem keys_ok {de : DE} (h1 : de S st = .ok (.ref n) st) (h2 : lkAt st n = some (dcK enc d)) : dKeysT de S st = .ok ((d.map (·.1)).map fun p => .v (fr2 p) false) st := by
  unfold dKeysT
  rw [h1]
  show (match lkAt st n with
    | some kvs => Res.ok (kvs.map fun (kv : List Key × AV) => AV.v (keyV kv.1) false) st
    | none => .bad) = _
  rw [h2]
  show Res.ok _ st = _
  unfold dcK
  rw [List.map_map, List.map_map]
  rfl
theorem items_ok {de : DE} (h1 : de S st = .ok (.ref n) st) (h2 : lkAt st n = some (dcK enc d)) : dItemsT de S st = .ok (d.map fun e => .v (.tup [fr2 e.1, enc e.2]) false) st := by
  have e : toPs ((dcK enc d).map (·.2)) = some (d.map fun e => enc e.2) := by
    unfold dcK
    rw [List.map_map]
    exact toPs_map (fun e => enc e.2) false d
  unfold dItemsT
  rw [h1]
  show (match lkAt st n with
    | some kvs => match toPs (kvs.map fun (kv : List Key × AV) => kv.2) with
      | some ps => Res.ok ((kvs.zip ps).map fun (z : (List Key × AV) × PV) => AV.v (.tup [keyV z.1.1, z.2]) false) st
      | none => .bad
    | none => .bad) = _
  rw [h2]
  show (match toPs ((dcK enc d).map (·.2)) with
      | some ps => Res.ok (((dcK enc d).zip ps).map fun (z : (List Key × AV) × PV) => AV.v (.tup [keyV z.1.1, z.2]) false) st
      | none => .bad) = _
  rw [e]
  show Res.ok _ st = _
  unfold dcK
  rw [List.zip_map', List.map_map]
  rfl
theorem listT_ok {da : DA} (h1 : da S st = .ok [.ref n] st) (h2 : rdAt st n = some (dcK enc d)) : dB1 (fListT false) da S st = .ok (.v (.lst true ((d.map (·.1)).map fr2)) true) st := by
  refine dB1_ok h1 ?_
  show (match rdAt st n with
    | some kvs => newL false (kvs.map fun (kv : List Key × AV) => AV.v (keyV kv.1) false) st
    | none => .bad) = _
  rw [h2]
  show newL false ((dcK enc d).map fun (kv : List Key × AV) => AV.v (keyV kv.1) false) st = _
  rw [show ((dcK enc d).map fun (kv : List Key × AV) => AV.v (keyV kv.1) false) = (d.map (·.1)).map fun p => .v (fr2 p) false by unfold dcK; rw [List.map_map, List.map_map]; rfl]
  exact newL_false (toPs_map fr2 false _)
theorem vals_ok {de : DE} (h1 : de S st = .ok (.ref n) st) (h2 : rdAt st n = some (dcK enc d)) : dLstVals false de S st = .ok (.v (.lst true ((d.map (·.2)).map enc)) true) st := by
  unfold dLstVals
  rw [h1]
  show (match rdAt st n with
    | some kvs => newL false (kvs.map fun (kv : List Key × AV) => kv.2) st
    | none => .bad) = _
  rw [h2]
  show newL false ((dcK enc d).map (·.2)) st = _
  rw [show ((dcK enc d).map (·.2)) = (d.map (·.2)).map fun x => .v (enc x) false by unfold dcK; rw [List.map_map, List.map_map]; rfl]
  exact newL_false (toPs_map enc false _)
theorem pairsK_keys (d : Dc β) : pairsK ((dcK enc d).map (·.1)) = some (d.map (·.1)) := by
  unfold dcK
  rw [List.map_map]
  induction d with
  | nil => rfl
  | cons e d ih =>
    rw [List.map_cons]
    show pairsK (keyF e.1 :: _) = _
    unfold pairsK
    rw [ih]
    rfl
theorem sortL_ok {de : DE} {j : Nat} {i : Int} (h1 : de S st = .ok (.ref n) st) (h2 : rdAt st n = some (dcK enc d)) (h3 : S[j]? = some (some (.v (.int i) f))) (h4 : ∀ p ∈ d.map (·.1), p.2 ≠ 0 ∧ mulC p.1 (i.fdiv p.2) = true) : dSortL false j de S st = .ok (.v (.lst true (((d.map (·.1)).mergeSort (leL i)).map fr2)) true) st := by
  have e : (d.map (·.1)).all (fun p => decide (p.2 ≠ 0) && mulC p.1 (i.fdiv p.2)) = true := List.all_eq_true.mpr fun p hp => by
    obtain ⟨a, b⟩ := h4 p hp
    rw [b, decide_eq_true a]; rfl
  unfold dSortL
  rw [h1]
  show (match rdAt st n, (S[j]?).join.bind fInts with
    | some kvs, some i => fSortL false kvs i st
    | _, _ => .bad) = _
  rw [h2, h3]
  show fSortL false (dcK enc d) i st = _
  unfold fSortL
  rw [pairsK_keys]
  show (bif (d.map (·.1)).all (fun p => decide (p.2 ≠ 0) && mulC p.1 (i.fdiv p.2)) then newL false (((d.map (·.1)).mergeSort (leL i)).map fun p => .v (.tup [.int p.1, .int p.2]) false) st else .bad) = _
  rw [e]
  exact newL_false (toPs_map fr2 false _)
theorem wp_put {dv de dk : DE} {r : DS} {Q : A.Flow → Prop} (h1 : de S st = .ok (.ref n) st) (h2 : dctAt st n = some (dcK enc d)) (h3 : dv S st = .ok (.v (enc s) g) st) (h4 : dk S st = .ok (.v (fr2 p) f) st) (l : d.length < 1000000) (k : Wp r S (st.set n (.dT (dcK enc (dcPut d p s)))) Q) : Wp (dSeq (dTPut dv de dk) r) S st Q := wp_nx (tput_ok h1 h2 h3 h4 l) k
theorem wp_put' {dv de dk : DE} {Q : A.Flow → Prop} (h1 : de S st = .ok (.ref n) st) (h2 : dctAt st n = some (dcK enc d)) (h3 : dv S st = .ok (.v (enc s) g) st) (h4 : dk S st = .ok (.v (fr2 p) f) st) (l : d.length < 1000000) (k : Q (.nx S (st.set n (.dT (dcK enc (dcPut d p s)))))) : Wp (dTPut dv de dk) S st Q := by
  unfold Wp; rw [tput_ok h1 h2 h3 h4 l]; exact k
end
theorem dictT_ok {S : Slots} {st : Store} : dDictT S st = .ok (.ref st.length) (st ++ [.dT []]) := rfl
end DT
local macro_rules | `(tactic| walk_at "a_hint") => `(tactic| first
  | exact DT.dictT_ok
  | ((with_reducible apply DT.tget_ok); walk_at "a_ev"; exact rfl; walk_at "a_ev"; walk_at "a_ev")
  | ((with_reducible apply DT.tix_ok); walk_at "a_ev"; exact rfl; walk_at "a_ev"; walk_at "a_hint")
  | ((with_reducible apply DT.listT_ok); walk_at "a_evs"; exact rfl)
  | ((with_reducible apply DT.vals_ok); walk_at "a_ev"; exact rfl))
namespace DT
open PySem PySem.Spec PyProof.Rows L2 A
open Law (fr2)
end DT
local macro_rules | `(tactic| walk_at "a_wp1") => `(tactic| first
  | ((with_reducible apply DT.wp_put); walk_at "a_ev"; exact rfl; walk_at "a_ev"; walk_at "a_ev"; (first | assumption | omega); walk_at "a_nrm")
  | ((with_reducible apply DT.wp_put'); walk_at "a_ev"; exact rfl; walk_at "a_ev"; walk_at "a_ev"; (first | assumption | omega); walk_at "a_nrm"))
namespace DT
open PySem PySem.Spec PyProof.Rows L2 A
open Law (fr2)
end DT

/-! plain lemmas: walks over data or places, slices -/
namespace A
open PySem PySem.Spec PyProof.Rows L2
section
variable {b r : DS} {S : Slots} {st st1 : Store} {Q : A.Flow → Prop} {de : DE} {α : Type} {tg : DG}
/-- a list of these values: as data or in the store -/
def Src (enc : α → PV) (ys : List α) (x : AV) (st : Store) : Prop := (∃ t fr, x = .v (.lst t (ys.map enc)) fr) ∨ ∃ n, x = .ref n ∧ lstAt st n = some (ys.map fun y => .v (enc y) false)
theorem wp_forS (enc : α → PV) (ys : List α) {x : AV} (I : List α → List α → Slots → Store → Prop) (h : de S st = .ok x st1) (src : Src enc ys x st1) (h0 : I [] ys S st1)
    (hl : ∀ n, x = .ref n → ∀ done todo S st, I done todo S st → lstAt st n = some (ys.map fun y => .v (enc y) false))
    (hs : ∀ done y todo S st, done ++ y :: todo = ys → I done (y :: todo) S st → ∃ S1, tg (.v (enc y) false) S = some S1 ∧ Wp b S1 st (turn (I (done ++ [y]) todo) (I ys []) fun f => (∀ S st, f ≠ .nx S st) ∧ Q f))
    (k : ∀ S' st', I ys [] S' st' → Wp r S' st' Q) : Wp (dSeq (dForE de tg b) r) S st Q := by
  rcases src with ⟨t, fr, rfl⟩ | ⟨n, rfl, hn⟩
  · exact wp_forI enc ys I h h0 hs k
  · exact wp_forR enc ys I h h0 (fun done todo S st => hl n rfl done todo S st) hs k
theorem Src.at {enc : α → PV} {ys : List α} {x : AV} (src : Src enc ys x st) {n : Nat} (e : x = .ref n) : lstAt st n = some (ys.map fun y => .v (enc y) false) := by
  rcases src with ⟨t, f, rfl⟩ | ⟨m, rfl, hn⟩
  · cases e
  · cases e; exact hn
/-- a call with such a list -/
theorem cS1 {enc : α → PV} {ys : List α} {x : AV} {den : PDen} {p : PV} {fr : Bool} (src : Src enc ys x st) (h : ∀ t, den [.lst t (ys.map enc)] = .ok p fr) (nb : noBor p = true) : callP den [x] st = .ok (.v p fr) st := by
  rcases src with ⟨t, f, rfl⟩ | ⟨n, rfl, hn⟩
  · exact cP1 (h t)
  · exact cR1 (lstAt_eq hn) (h false) nb
/-- for .. in range(..), with a break -/
theorem wp_forDJ {it : DA} (enc : α → AV) (ys : List α) (I : List α → List α → Slots → Store → Prop) (J : Slots → Store → Prop) (h : it S st = .ok (ys.map enc) st1) (h0 : I [] ys S st1) (hj : ∀ S st, I ys [] S st → J S st)
    (hs : ∀ done y todo S st, done ++ y :: todo = ys → I done (y :: todo) S st → ∃ S1, tg (enc y) S = some S1 ∧ Wp b S1 st (turn (I (done ++ [y]) todo) J fun f => (∀ S st, f ≠ .nx S st) ∧ Q f))
    (k : ∀ S' st', J S' st' → Wp r S' st' Q) : Wp (dSeq (dFor it tg b) r) S st Q := by
  refine wp_of_for (J := J) ?_ k
  rw [dFor_at (tg := tg) (b := b) h]
  exact forL_go enc ys I J h0 hj hs
theorem slice1_ok {xs : List PV} {y : PV} {t fr g : Bool} {dl : DE} (h : de S st = .ok (.v (.lst t (y :: xs)) fr) st1) (l : dl S st1 = .ok (.v (.int 1) g) st1) : dSlice false de (dPart dl) dNoPart S st = .ok (.v (.lst true xs) true) st1 := by
  unfold dSlice
  rw [h]
  show ((dPart dl S st1).then _) = _
  unfold dPart
  rw [l]
  show newL false (A.cut ((y :: xs).map (AV.v · false)) (some 1) none) st1 = _
  have c : A.cut ((y :: xs).map (AV.v · false)) (some 1) none = xs.map (AV.v · false) := by
    unfold A.cut
    have e : HT.sIx ((y :: xs).map (AV.v · false)).length 0 (some 1) = 1 := by
      rw [show (some (1 : Int)) = some ((1 : Nat) : Int) from rfl, HT.sIx_nat]
      simp
    rw [e, HT.sIx_none, List.map_cons, List.drop_succ_cons, List.drop_zero]
    exact List.take_of_length_le (by simp)
  rw [c]
  exact newL_false (toPs_pvs xs)
end
theorem lstAt_app {st : Store} {o : AO} {n : Nat} {xs : List AV} (h : lstAt st n = some xs) : lstAt (st ++ [o]) n = some xs := by
  have e := lstAt_eq h
  have l := (List.getElem?_eq_some_iff.mp e).1
  unfold lstAt
  rw [List.getElem?_append_left l, e]
theorem lstAt_new {st : Store} {xs : List AV} : lstAt (st ++ [.lst xs]) st.length = some xs := by simp [lstAt]
theorem get_new {st : Store} {o : AO} : (st ++ [o])[st.length]? = some o := by simp
theorem set_new {st : Store} {o o' : AO} : (st ++ [o]).set st.length o' = st ++ [o'] := by simp
end A

/-! plain lemmas: objects, methods, tuples walked -/
namespace A
open PySem PySem.Spec PyProof.Rows L2
section
variable {S S1 : Slots} {st st1 st2 st3 : Store} {x y : AV} {xs ys : List AV} {de dv : DE} {da : DA} {cs : List Ty} {Q : A.Flow → Prop} {r : DS}
theorem fld_v {f C : Nat} {t fr : Bool} {fs : List Nat} {ps : List PV} {p : PV} (h : de S st = .ok (.v (.obj t C fs ps) fr) st1) (c : cs.contains (.o C) = true) (l : (fs.zip ps).lookup f = some p) : dFld cs f de S st = .ok (.v p false) st1 := by
  have e : fldOf cs st1 f (.v (.obj t C fs ps) fr) = some (.v p false) := by
    show (bif cs.contains (.o C) then ((fs.zip ps).lookup f).map (AV.v · false) else none) = _
    rw [c, l]; rfl
  unfold dFld
  rw [h]
  show (match fldOf cs st1 f (.v (.obj t C fs ps) fr) with
    | some y => Res.ok y st1
    | none => .bad) = _
  rw [e]
theorem fld_ref {f n C : Nat} {fs : List (Nat × AV)} (h : de S st = .ok (.ref n) st1) (e1 : st1[n]? = some (.ins C fs)) (c : cs.contains (.o C) = true) (l : fs.lookup f = some x) : dFld cs f de S st = .ok (A.strip x) st1 := by
  have e : fldOf cs st1 f (.ref n) = some (A.strip x) := by
    unfold fldOf
    simp only [e1, c, l, cond_true, Option.map_some]
  unfold dFld
  rw [h]
  show (match fldOf cs st1 f (.ref n) with
    | some y => Res.ok y st1
    | none => .bad) = _
  rw [e]
theorem setF_ok {f n C : Nat} {fs : List (Nat × AV)} (h : dv S st = .ok y st1) (k : de S st1 = .ok (.ref n) st2) (e1 : st2[n]? = some (.ins C fs)) (c : cs.contains (.o C) = true) (l : Nat.ble fs.length 900 = true) : dSetF cs f dv de S st = .nx S (st2.set n (.ins C (putN f y fs))) := by
  unfold dSetF
  rw [h]
  show ((de S st1).flow S _) = _
  rw [k]
  show (match st2[n]? with
    | some (.ins C fs) => bif cs.contains (.o C) && Nat.ble fs.length 900 then A.Flow.nx S (st2.set n (.ins C (putN f y fs))) else .bad
    | _ => .bad) = _
  rw [e1]
  show (bif cs.contains (.o C) && Nat.ble fs.length 900 then A.Flow.nx S (st2.set n (.ins C (putN f y fs))) else .bad) = _
  rw [c, l]
  rfl
theorem wp_setF {f n C : Nat} {fs : List (Nat × AV)} (h : dv S st = .ok y st1) (k : de S st1 = .ok (.ref n) st2) (e1 : st2[n]? = some (.ins C fs)) (c : cs.contains (.o C) = true) (l : Nat.ble fs.length 900 = true) (w : Wp r S (st2.set n (.ins C (putN f y fs))) Q) : Wp (dSeq (dSetF cs f dv de) r) S st Q := wp_nx (setF_ok h k e1 c l) w
theorem wp_setF' {f n C : Nat} {fs : List (Nat × AV)} (h : dv S st = .ok y st1) (k : de S st1 = .ok (.ref n) st2) (e1 : st2[n]? = some (.ins C fs)) (c : cs.contains (.o C) = true) (l : Nat.ble fs.length 900 = true) (w : Q (.nx S (st2.set n (.ins C (putN f y fs))))) : Wp (dSetF cs f dv de) S st Q := by
  unfold Wp; rw [setF_ok h k e1 c l]; exact w
theorem mth_v {tb : MTab} {k C : Nat} {t fr : Bool} {fs : List Nat} {ps : List PV} {f : List AV → Store → Res AV} {r : Res AV} (h : de S st = .ok (.v (.obj t C fs ps) fr) st1) (e : tb C = some f) (ha : da S st1 = .ok ys st2) (l : Nat.beq ys.length k = true) (hf : f (.v (.obj t C fs ps) fr :: ys) st2 = r) : dMth tb k de da S st = r := by
  unfold dMth
  rw [h]
  show (match tb C with
    | some f => (da S st1).then fun xs st2 => bif Nat.beq xs.length k then f (.v (.obj t C fs ps) fr :: xs) st2 else .bad
    | none => .bad) = _
  rw [e]
  show ((da S st1).then _) = _
  rw [ha]
  show (bif Nat.beq ys.length k then f (.v (.obj t C fs ps) fr :: ys) st2 else .bad) = _
  rw [l]
  exact hf
theorem mth_ref {tb : MTab} {k n C : Nat} {fs : List (Nat × AV)} {f : List AV → Store → Res AV} {r : Res AV} (h : de S st = .ok (.ref n) st1) (e1 : st1[n]? = some (.ins C fs)) (e : tb C = some f) (ha : da S st1 = .ok ys st2) (l : Nat.beq ys.length k = true) (hf : f (.ref n :: ys) st2 = r) : dMth tb k de da S st = r := by
  have c : clsOf st1 (.ref n) = some C := by
    unfold clsOf
    simp only [e1]
  unfold dMth
  rw [h]
  show (match clsOf st1 (.ref n) with
    | some C => match tb C with
      | some f => (da S st1).then fun xs st2 => bif Nat.beq xs.length k then f (.ref n :: xs) st2 else .bad
      | none => .bad
    | none => .bad) = _
  rw [c]
  show (match tb C with
    | some f => (da S st1).then fun xs st2 => bif Nat.beq xs.length k then f (.ref n :: xs) st2 else .bad
    | none => .bad) = _
  rw [e]
  show ((da S st1).then _) = _
  rw [ha]
  show (bif Nat.beq ys.length k then f (.ref n :: ys) st2 else .bad) = _
  rw [l]
  exact hf
theorem runM_ok {C N : Nat} {d : DS} {ps : List PV} {p : PV} (h : Wp d (slots0 N (.ref 0 :: ps.map (AV.v · false))) [.ins C []] fun f => ∃ S st, f = .nx S st ∧ viewN true st 12 (.ref 0) = some p) : runM C N d ps = .ok p false := by
  obtain ⟨S, st, e, v⟩ := h
  unfold runM
  rw [e]
  simp only [v]
theorem fTuple_lst {t fr : Bool} {ps : List PV} : fTuple [.v (.lst t ps) fr] st = .ok (.v (.tup ps) false) st := by
  have e : toPs (ps.map (AV.v · false)) = some ps := toPs_pvs ps
  show (match (some (ps.map (AV.v · false))).bind toPs with
    | some ps => Res.ok (AV.v (.tup ps) false) st
    | none => .bad) = _
  show (match toPs (ps.map (AV.v · false)) with
    | some ps => Res.ok (AV.v (.tup ps) false) st
    | none => .bad) = _
  rw [e]
theorem fTuple_ref {α : Type} {enc : α → PV} {n : Nat} {zs : List α} (h : st[n]? = some (.lst (zs.map fun y => .v (enc y) false))) : fTuple [.ref n] st = .ok (.v (.tup (zs.map enc)) false) st := by
  have e : listOf st (.ref n) = some (zs.map fun y => .v (enc y) false) := by
    unfold listOf
    simp only [h]
  show (match (listOf st (.ref n)).bind toPs with
    | some ps => Res.ok (AV.v (.tup ps) false) st
    | none => .bad) = _
  rw [e]
  show (match toPs (zs.map fun y => AV.v (enc y) false) with
    | some ps => Res.ok (AV.v (.tup ps) false) st
    | none => .bad) = _
  rw [toPs_map]
/-- a comprehension over a tuple -/
theorem compE_tup {α : Type} {vs : List Nat} {di : DE} {tg : DG} {e : DE} {fr : Bool} (enc g : α → PV) (zs : List α) (h : di S st = .ok (.v (.tup (zs.map enc)) fr) st1) (l : zs.length ≤ 1000000) (k : ∀ y ∈ zs, ∃ S1, tg (.v (enc y) false) (wipeS S vs) = some S1 ∧ ∃ f, e S1 st1 = .ok (.v (g y) f) st1) : dCompE false vs di tg dYes e S st = .ok (.v (.lst true (zs.map g)) true) st1 := by
  have cl : ∀ ws : List α, (∀ y ∈ ws, ∃ S1, tg (.v (enc y) false) (wipeS S vs) = some S1 ∧ ∃ f, e S1 st1 = .ok (.v (g y) f) st1) → ∃ us, compL tg dYes e (wipeS S vs) (ws.map fun y => .v (enc y) false) st1 = .ok us st1 ∧ toPs us = some (ws.map g) ∧ us.length = ws.length := fun ws => by
    induction ws with
    | nil => exact fun _ => ⟨[], rfl, rfl, rfl⟩
    | cons w ws ih =>
      intro hk
      obtain ⟨S1, h1, f, h2⟩ := hk w List.mem_cons_self
      obtain ⟨us, e1, e2, e3⟩ := ih fun y hy => hk y (List.mem_cons_of_mem _ hy)
      refine ⟨.v (g w) f :: us, by simp [compL, h1, h2, dYes, Res.then, e1], ?_, by simp [e3]⟩
      rw [toPs, e2]; rfl
  obtain ⟨us, e1, e2, e3⟩ := cl zs k
  rw [compE_at (xs := zs.map fun y => .v (enc y) false) h (by show some ((zs.map enc).map (AV.v · false)) = _; rw [List.map_map]; rfl) e1 (by omega)]
  exact newL_false e2
/-- a comprehension over a list, the items' freshness left open -/
theorem compE_lst {α : Type} {vs : List Nat} {di : DE} {tg : DG} {e : DE} {t fr : Bool} (enc g : α → PV) (zs : List α) (h : di S st = .ok (.v (.lst t (zs.map enc)) fr) st1) (l : zs.length ≤ 1000000) (k : ∀ y ∈ zs, ∃ S1, tg (.v (enc y) false) (wipeS S vs) = some S1 ∧ ∃ f, e S1 st1 = .ok (.v (g y) f) st1) : dCompE false vs di tg dYes e S st = .ok (.v (.lst true (zs.map g)) true) st1 := by
  have cl : ∀ ws : List α, (∀ y ∈ ws, ∃ S1, tg (.v (enc y) false) (wipeS S vs) = some S1 ∧ ∃ f, e S1 st1 = .ok (.v (g y) f) st1) → ∃ us, compL tg dYes e (wipeS S vs) (ws.map fun y => .v (enc y) false) st1 = .ok us st1 ∧ toPs us = some (ws.map g) ∧ us.length = ws.length := fun ws => by
    induction ws with
    | nil => exact fun _ => ⟨[], rfl, rfl, rfl⟩
    | cons w ws ih =>
      intro hk
      obtain ⟨S1, h1, f, h2⟩ := hk w List.mem_cons_self
      obtain ⟨us, e1, e2, e3⟩ := ih fun y hy => hk y (List.mem_cons_of_mem _ hy)
      refine ⟨.v (g w) f :: us, by simp [compL, h1, h2, dYes, Res.then, e1], ?_, by simp [e3]⟩
      rw [toPs, e2]; rfl
  obtain ⟨us, e1, e2, e3⟩ := cl zs k
  rw [compE_at (xs := zs.map fun y => .v (enc y) false) h (by show some ((zs.map enc).map (AV.v · false)) = _; rw [List.map_map]; rfl) e1 (by omega)]
  exact newL_false e2
theorem wp_forT' {b : DS} {α : Type} {tg : DG} {fr : Bool} (enc : α → PV) (zs : List α) (I : List α → List α → Slots → Store → Prop) (h : de S st = .ok (.v (.tup (zs.map enc)) fr) st1) (h0 : I [] zs S st1)
    (hs : ∀ done y todo S st, done ++ y :: todo = zs → I done (y :: todo) S st → ∃ S1, tg (.v (enc y) false) S = some S1 ∧ Wp b S1 st (turn (I (done ++ [y]) todo) (I zs []) fun f => (∀ S st, f ≠ .nx S st) ∧ Q f))
    (k : ∀ S' st', I zs [] S' st' → Q (.nx S' st')) : Wp (dForE de tg b) S st Q := by
  refine wp_of_for' (J := I zs []) ?_ k
  rw [forE_at (tg := tg) (b := b) h (show itemsV (.v (.tup (zs.map enc)) fr) = some (zs.map fun y => .v (enc y) false) by show some ((zs.map enc).map (AV.v · false)) = _; rw [List.map_map]; rfl)]
  exact forL_go (fun y => .v (enc y) false) zs I (I zs []) h0 (fun _ _ h => h) hs
theorem fMaxL_ok {α : Type} {t fr : Bool} {f : α → Int} {z : α} {zs : List α} : fMaxL [.v (.lst t ((z :: zs).map fun y => .int (f y))) fr] st = .ok (.v (.int (maxL ((z :: zs).map f))) false) st := by
  have e : intsOf st (.v (.lst t ((z :: zs).map fun y => .int (f y))) fr) = some ((z :: zs).map f) := by
    show toInts (((z :: zs).map fun y => PV.int (f y)).map (AV.v · false)) = _
    rw [show ((z :: zs).map fun y => PV.int (f y)) = ((z :: zs).map f).map PV.int by rw [List.map_map]; rfl, List.map_map]
    exact toInts_map _
  show (match intsOf st (.v (.lst t ((z :: zs).map fun y => .int (f y))) fr) with
    | some (n :: ns) => Res.ok (AV.v (.int (maxL (n :: ns))) false) st
    | _ => .bad) = _
  rw [e]
  rfl
theorem fEq_str {a b : Str} {f g r : Bool} (h : (SeqAt.shaped (PyData.str a) && SeqAt.shaped (PyData.str b)) = true) (k : PyData.eqv (.str a) (.str b) = r) : fEq false (.v (.str a) f) (.v (.str b) g) st = .ok (.v (.bl r) false) st := by
  unfold fEq
  rw [dataOf_v, dataOf_v]
  show (bif SeqAt.shaped (PyData.str a) && SeqAt.shaped (PyData.str b) then Res.ok (AV.v (.bl (PyData.eqv (.str a) (.str b))) false) st else .bad) = _
  rw [h, k]
  rfl
theorem popAt_ok {n : Nat} {z : AV} {zs : List AV} {g : Bool} (h : lstAt st n = some (z :: zs)) : fPopAt (.ref n) [.v (.int 0) g] st = .ok (A.strip z) (st.set n (.lst zs)) := by
  rw [pop_at (k := 0) (y := z) h rfl (by unfold L2.ixN; simp) rfl]
  rfl
theorem par_ok {i j : Nat} (h : da S st = .ok [x, y] st1) : dPar i j da S st = .nx ((S.set i (some x)).set j (some y)) st1 := by
  unfold dPar
  rw [h]
  rfl
end
end A

/-! plain lemmas: slices, a list repeated, a pick from a list -/
namespace A
open PySem PySem.Spec PyProof.Rows L2
theorem sx1 (n : Nat) (d : Nat) {k : Nat} (h : k ≤ n) : HT.sIx n d (some (k : Int)) = k := by
  rw [HT.sIx_nat]
  exact Nat.min_eq_left h
theorem take_ok {de dl : DE} {S : Slots} {st st1 st2 : Store} {xs : List PV} {t fr g : Bool} {k : Nat} (h : de S st = .ok (.v (.lst t xs) fr) st1) (l : dl S st1 = .ok (.v (.int (k : Int)) g) st2) (hk : k ≤ xs.length) : dSlice false de dNoPart (dPart dl) S st = .ok (.v (.lst true (xs.take k)) true) st2 := by
  unfold dSlice
  rw [h]
  show ((dPart dl S st1).then _) = _
  unfold dPart
  rw [l]
  show newL false (A.cut (xs.map (AV.v · false)) none (some (k : Int))) st2 = _
  have e : A.cut (xs.map (AV.v · false)) none (some (k : Int)) = (xs.take k).map (AV.v · false) := by
    unfold A.cut
    rw [List.length_map, sx1 _ _ hk, List.map_take]
    rfl
  rw [e]
  exact newL_false (toPs_pvs _)
theorem drop_ok {de dl : DE} {S : Slots} {st st1 st2 : Store} {xs : List PV} {t fr g : Bool} {k : Nat} (h : de S st = .ok (.v (.lst t xs) fr) st1) (l : dl S st1 = .ok (.v (.int (k : Int)) g) st2) (hk : k ≤ xs.length) : dSlice false de (dPart dl) dNoPart S st = .ok (.v (.lst true (xs.drop k)) true) st2 := by
  unfold dSlice
  rw [h]
  show ((dPart dl S st1).then _) = _
  unfold dPart
  rw [l]
  show newL false (A.cut (xs.map (AV.v · false)) (some (k : Int)) none) st2 = _
  have e : A.cut (xs.map (AV.v · false)) (some (k : Int)) none = (xs.drop k).map (AV.v · false) := by
    unfold A.cut
    rw [List.length_map, sx1 _ _ hk, List.map_drop]
    refine List.take_of_length_le ?_
    rw [List.length_drop, List.length_map]
    exact Nat.le_refl _
  rw [e]
  exact newL_false (toPs_pvs _)
theorem rep1_ok {p : PV} {t f g : Bool} {k : Nat} {st : Store} (h : k ≤ 1000000) : fRep false (.v (.lst t [p]) f) (.v (.int (k : Int)) g) st = .ok (.v (.lst true (List.replicate k p)) true) st := by
  have b : (bnd (k : Int) && Nat.ble (([p].map (AV.v · false)).length * (k : Int).toNat) 1000000) = true := by
    rw [Bool.and_eq_true]
    refine ⟨?_, Nat.ble_eq.mpr (by simp; omega)⟩
    unfold bnd
    rw [Bool.and_eq_true]
    exact ⟨decide_eq_true (by omega), decide_eq_true (by omega)⟩
  show (bif (bnd (k : Int) && Nat.ble (([p].map (AV.v · false)).length * (k : Int).toNat) 1000000) then newL false (List.replicate (k : Int).toNat ([p].map (AV.v · false))).flatten st else .bad) = _
  rw [b]
  have e : (List.replicate (k : Int).toNat ([p].map (AV.v · false))).flatten = (List.replicate k p).map (AV.v · false) := by
    rw [Int.toNat_natCast, List.map_replicate]
    clear h b
    induction k with
    | zero => rfl
    | succ k ih => rw [List.replicate_succ, List.replicate_succ, List.flatten_cons, ih]; rfl
  rw [cond_true, e]
  exact newL_false (toPs_pvs _)
theorem pickP {P : PV → Prop} {n : Nat} (m : Int) (hn : 0 < n) (xs : List PV) (l : xs.length = n) (h : ∀ x ∈ xs, P x) : ∃ q, L2.atI xs (m.fmod (n : Int)) = some q ∧ P q := by
  have r0 := Int.fmod_nonneg_of_pos m (show 0 < (n : Int) by omega)
  have r1 := Int.fmod_lt_of_pos m (show 0 < (n : Int) by omega)
  obtain ⟨j, hj⟩ : ∃ j : Nat, m.fmod (n : Int) = (j : Int) := ⟨(m.fmod (n : Int)).toNat, by omega⟩
  have jl : j < xs.length := by omega
  exact ⟨xs[j], by rw [hj]; exact A.atN (List.getElem?_eq_getElem jl), h _ (List.getElem_mem jl)⟩
/-- a try whose body raises nothing -/
theorem thru_nx {db : DS} {S S1 : Slots} {st st1 : Store} (h : db S st = .nx S1 st1) : dThru db S st = .nx S1 st1 := by
  unfold dThru
  rw [h]
theorem lockL_ok {i n : Nat} {dl : DS} {S S' : Slots} {st st' : Store} {xs xs' : List AV} (h1 : S[i]? = some (some (.ref n))) (h2 : lstAt st n = some xs) (h3 : dl S (st.set n (.lkL xs)) = .nx S' st') (h4 : lkAtL st' n = some xs') : dLockL i dl S st = .nx S' (st'.set n (.lst xs')) := by
  unfold dLockL
  simp only [h1, h2, h3, h4]
section
variable {α : Type} {enc : α → PV} {st : Store} {n : Nat} {ys : List α} {den : PDen}
/-- a call of a place of the store, what comes back is made a place -/
theorem cUR1 {zs : List PV} (h : st[n]? = some (.lst (ys.map fun y => .v (enc y) false))) (h2 : den [.lst false (ys.map enc)] = .ok (.lst true zs) true) (h3 : noBor (.lst true zs) = true) : callU den [.ref n] st = .ok (.ref st.length) (st ++ [.lst (zs.map (AV.v · false))]) := by
  unfold callU
  have h1 : views false st [.ref n] = some [.lst false (ys.map enc)] := by
    show (optAll [view false st (.ref n)]) = _
    rw [view_enc h]; rfl
  have h0 : toPs [AV.ref n] = none := rfl
  simp only [h0, h1, h2, h3, cond_true]
  rfl
theorem fList_r (h : st[n]? = some (.lst (ys.map fun y => .v (enc y) false))) : fList false [.ref n] st = .ok (.v (.lst true (ys.map enc)) true) st := by
  have e : lstAt st n = some (ys.map fun y => .v (enc y) false) := by
    unfold lstAt
    rw [h]
  show (match lstAt st n with
    | some ys => newL false ys st
    | none => Res.bad) = _
  rw [e]
  exact newL_false (toPs_map enc false ys)
theorem fEq_ref {neg : Bool} {y : AV} {f : Bool} (h : st[n]? = some (.lst (ys.map fun y => .v (enc y) false))) : fEq neg (.ref n) y st = fEq neg (.v (.lst false (ys.map enc)) f) y st := by
  have e : A.dataOf st (.ref n) = A.dataOf st (.v (.lst false (ys.map enc)) f) := by
    show (view false st (.ref n)).bind toD = _
    rw [view_enc h]
    rfl
  unfold fEq
  rw [e]
end
end A

namespace Tb
open PySem PySem.Spec PyProof.Rows L2 A
open Law (fr2 lowF eu_loop)
/-- divisor(one, other) -/
def d_divisor : DS :=
  dSeq (dSet 0 (dB1 fAbs (dCons (dVar 0) (dNil))))
  (dSeq (dSet 1 (dB1 fAbs (dCons (dVar 1) (dNil))))
  (dSeq (dWhile (natSlot 1) (dB (dBin fGt (dVar 1) (dC (.int (0))))) (dSeq (dSet 2 (dBin fMod (dVar 0) (dVar 1)))
  (dSeq (dSet 0 (dVar 1))
  (dSet 1 (dVar 2)))))
  (dRet (dVar 0))))
def f_divisor : PDen := runP 3 d_divisor
def g_divisor : PDen := fun ps => match ps with
  | [.int a, .int b] => .ok (.int (Int.gcd a b)) false
  | ps => f_divisor ps
theorem m_divisor (a b : Int) : f_divisor [.int a, .int b] = .ok (.int (Int.gcd a b)) false := by
  obtain ⟨r', e⟩ := eu_loop (b.natAbs + 1) a.natAbs b.natAbs none (by omega)
  have ha : (if a < 0 then -a else a) = (a.natAbs : Int) := by split <;> omega
  have hb : (if b < 0 then -b else b) = (b.natAbs : Int) := by split <;> omega
  simp [f_divisor, d_divisor, ha, hb, dWhile, natSlot, e, Int.gcd, runP, runI, slots0, A.strip, dRet, dRetN, Res.flow, Res.then, dBin, dI2, dVar, dC, fIx, okP, okV, freeze, L2.atI, L2.ixN, dSeq, dIf, dSet, dExpr, dB, dArg, dCons, dNil, callP, toPs, toP, PRes.res, dNext, dB1, fLen, lenOf, fAbs, fAdd, dAnd, dOr, dNot, dAndV, dOrV, dNotV, dBV, dIfE, dTup, dLst, newL, dAsg, gN, gT, gU, unP, gC, gE, dForE, forR, lstAt, turnsAt, dCompE, compR, isLst, dMeth, dMeth0, putL, itemsOf, fAppend, fExtend, fClear, fPop, fPopAt, fInsert, fReverse, fPut, dPut, fInts, dAug, dNeg, dPar, fInt, fMax2, fMin2, Nat.ble, dBreak, dCont, dComp, compL, noEx, wipeS, dYes, dRange1, dRange2, asI1, asI2, bnd, dItem, itemsV, dSlice, dPart, dNoPart, fSlice, A.cut, HT.sIx, A.listOf,  noBor, noBors, views, view, viewN, optAll]
theorem g_divisor_eq : f_divisor = g_divisor := funext fun ps => by
  unfold g_divisor
  split
  · exact m_divisor _ _
  · rfl
/-- share(top, bottom) -/
def d_share : DS :=
  dSeq (dSet 2 (dCall 2 g_divisor (dCons (dVar 0) (dCons (dVar 1) (dNil)))))
  (dSeq (dIf (dB (dBin fLt (dVar 1) (dC (.int (0))))) (dSet 2 (dBin fSub (dC (.int (0))) (dVar 2))) (dNext))
  (dRet (dTup (dCons (dBin fDiv (dVar 0) (dVar 2)) (dCons (dBin fDiv (dVar 1) (dVar 2)) (dNil))))))
def f_share : PDen := runP 3 d_share
def g_share : PDen := fun ps => match ps with
  | [.int t, .int b] => bif decide (b = 0) then f_share ps else .ok (fr2 (lowF t b)) false
  | ps => f_share ps
theorem m_share (t b : Int) (hb : b ≠ 0) : f_share [.int t, .int b] = .ok (fr2 (lowF t b)) false := by
  have g0 : ¬ t.gcd b = 0 := by
    have := Int.gcd_pos_of_ne_zero_right t hb
    omega
  by_cases hn : b < 0
  · simp [f_share, d_share, g_divisor, hn, g0, hb, lowF, fr2, runP, runI, slots0, A.strip, dRet, dRetN, Res.flow, Res.then, dBin, dI2, dVar, dC, fIx, okP, okV, freeze, L2.atI, L2.ixN, dSeq, dIf, dSet, dExpr, dB, dArg, dCons, dNil, callP, toPs, toP, PRes.res, dNext, dB1, fLen, lenOf, fAbs, fAdd, dAnd, dOr, dNot, dAndV, dOrV, dNotV, dBV, dIfE, dTup, dLst, newL, dAsg, gN, gT, gU, unP, gC, gE, dForE, forR, lstAt, turnsAt, dCompE, compR, isLst, dMeth, dMeth0, putL, itemsOf, fAppend, fExtend, fClear, fPop, fPopAt, fInsert, fReverse, fPut, dPut, fInts, dAug, dNeg, dPar, fInt, fMax2, fMin2, Nat.ble, dBreak, dCont, dComp, compL, noEx, wipeS, dYes, dRange1, dRange2, asI1, asI2, bnd, dItem, itemsV, dSlice, dPart, dNoPart, fSlice, A.cut, HT.sIx, A.listOf,  noBor, noBors, views, view, viewN, optAll]
  · simp [f_share, d_share, g_divisor, hn, g0, hb, lowF, fr2, runP, runI, slots0, A.strip, dRet, dRetN, Res.flow, Res.then, dBin, dI2, dVar, dC, fIx, okP, okV, freeze, L2.atI, L2.ixN, dSeq, dIf, dSet, dExpr, dB, dArg, dCons, dNil, callP, toPs, toP, PRes.res, dNext, dB1, fLen, lenOf, fAbs, fAdd, dAnd, dOr, dNot, dAndV, dOrV, dNotV, dBV, dIfE, dTup, dLst, newL, dAsg, gN, gT, gU, unP, gC, gE, dForE, forR, lstAt, turnsAt, dCompE, compR, isLst, dMeth, dMeth0, putL, itemsOf, fAppend, fExtend, fClear, fPop, fPopAt, fInsert, fReverse, fPut, dPut, fInts, dAug, dNeg, dPar, fInt, fMax2, fMin2, Nat.ble, dBreak, dCont, dComp, compL, noEx, wipeS, dYes, dRange1, dRange2, asI1, asI2, bnd, dItem, itemsV, dSlice, dPart, dNoPart, fSlice, A.cut, HT.sIx, A.listOf,  noBor, noBors, views, view, viewN, optAll]
theorem g_share_eq : f_share = g_share := funext fun ps => by
  unfold g_share
  split
  · rename_i t b
    by_cases hb : b = 0
    · simp [hb]
    · simp [hb, m_share t b hb]
  · rfl
/-- whole(number) -/
def d_whole : DS :=
  dRet (dTup (dCons (dVar 0) (dCons (dC (.int (1))) (dNil))))
def f_whole : PDen := runP 1 d_whole
/-- plus(one, other) -/
def d_plus : DS :=
  dRet (dCall 2 g_share (dCons (dBin (fAdd false) (dBin fMul (dBin fIx (dVar 0) (dC (.int (0)))) (dBin fIx (dVar 1) (dC (.int (1))))) (dBin fMul (dBin fIx (dVar 1) (dC (.int (0)))) (dBin fIx (dVar 0) (dC (.int (1)))))) (dCons (dBin fMul (dBin fIx (dVar 0) (dC (.int (1)))) (dBin fIx (dVar 1) (dC (.int (1))))) (dNil))))
def f_plus : PDen := runP 2 d_plus
def g_plus : PDen := fun ps => match ps with
  | [.tup [.int a, .int b], .tup [.int c, .int d]] => bif mulC a d && mulC c b && mulC b d && !decide (b * d = 0) then .ok (fr2 (lowF (a * d + c * b) (b * d))) false else f_plus ps
  | ps => f_plus ps
theorem m_plus {a b c d : Int} (h : (mulC a d && mulC c b && mulC b d && !decide (b * d = 0)) = true) : f_plus [.tup [.int a, .int b], .tup [.int c, .int d]] = .ok (fr2 (lowF (a * d + c * b) (b * d))) false := by
  simp only [Bool.and_eq_true, decide_eq_true_eq, Bool.not_eq_true', decide_eq_false_iff_not] at h
  simp [f_plus, d_plus, g_share, h, runP, runI, slots0, A.strip, dRet, dRetN, Res.flow, Res.then, dBin, dI2, dVar, dC, fIx, okP, okV, freeze, L2.atI, L2.ixN, dSeq, dIf, dSet, dExpr, dB, dArg, dCons, dNil, callP, toPs, toP, PRes.res, dNext, dB1, fLen, lenOf, fAbs, fAdd, dAnd, dOr, dNot, dAndV, dOrV, dNotV, dBV, dIfE, dTup, dLst, newL, dAsg, gN, gT, gU, unP, gC, gE, dForE, forR, lstAt, turnsAt, dCompE, compR, isLst, dMeth, dMeth0, putL, itemsOf, fAppend, fExtend, fClear, fPop, fPopAt, fInsert, fReverse, fPut, dPut, fInts, dAug, dNeg, dPar, fInt, fMax2, fMin2, Nat.ble, dBreak, dCont, dComp, compL, noEx, wipeS, dYes, dRange1, dRange2, asI1, asI2, bnd, dItem, itemsV, dSlice, dPart, dNoPart, fSlice, A.cut, HT.sIx, A.listOf,  noBor, noBors, views, view, viewN, optAll]
theorem g_plus_eq : f_plus = g_plus := funext fun ps => by
  unfold g_plus
  split
  · rename_i a b c d
    cases h : (mulC a d && mulC c b && mulC b d && !decide (b * d = 0)) with
    | true => exact m_plus h
    | false => rfl
  · rfl
theorem gl_plus {n m : Nat} {p q : Int × Int} (h : LF.Pz n p) (k : LF.Pz m q) (l : n + m < 100000000 := by omega) : g_plus [fr2 p, fr2 q] = .ok (fr2 (LF.plusF p q)) false := by
  have := h.mul k
  rw [← g_plus_eq]
  exact m_plus (by simp [mulC_of h.a k.b l, mulC_of k.a h.b (by omega), mulC_of h.b k.b l]; exact ⟨by have := h.pos; omega, by have := k.pos; omega⟩)
/-- minus(one, other) -/
def d_minus : DS :=
  dRet (dCall 2 g_share (dCons (dBin fSub (dBin fMul (dBin fIx (dVar 0) (dC (.int (0)))) (dBin fIx (dVar 1) (dC (.int (1))))) (dBin fMul (dBin fIx (dVar 1) (dC (.int (0)))) (dBin fIx (dVar 0) (dC (.int (1)))))) (dCons (dBin fMul (dBin fIx (dVar 0) (dC (.int (1)))) (dBin fIx (dVar 1) (dC (.int (1))))) (dNil))))
def f_minus : PDen := runP 2 d_minus
def g_minus : PDen := fun ps => match ps with
  | [.tup [.int a, .int b], .tup [.int c, .int d]] => bif mulC a d && mulC c b && mulC b d && !decide (b * d = 0) then .ok (fr2 (lowF (a * d - c * b) (b * d))) false else f_minus ps
  | ps => f_minus ps
theorem m_minus {a b c d : Int} (h : (mulC a d && mulC c b && mulC b d && !decide (b * d = 0)) = true) : f_minus [.tup [.int a, .int b], .tup [.int c, .int d]] = .ok (fr2 (lowF (a * d - c * b) (b * d))) false := by
  simp only [Bool.and_eq_true, decide_eq_true_eq, Bool.not_eq_true', decide_eq_false_iff_not] at h
  simp [f_minus, d_minus, g_share, h, runP, runI, slots0, A.strip, dRet, dRetN, Res.flow, Res.then, dBin, dI2, dVar, dC, fIx, okP, okV, freeze, L2.atI, L2.ixN, dSeq, dIf, dSet, dExpr, dB, dArg, dCons, dNil, callP, toPs, toP, PRes.res, dNext, dB1, fLen, lenOf, fAbs, fAdd, dAnd, dOr, dNot, dAndV, dOrV, dNotV, dBV, dIfE, dTup, dLst, newL, dAsg, gN, gT, gU, unP, gC, gE, dForE, forR, lstAt, turnsAt, dCompE, compR, isLst, dMeth, dMeth0, putL, itemsOf, fAppend, fExtend, fClear, fPop, fPopAt, fInsert, fReverse, fPut, dPut, fInts, dAug, dNeg, dPar, fInt, fMax2, fMin2, Nat.ble, dBreak, dCont, dComp, compL, noEx, wipeS, dYes, dRange1, dRange2, asI1, asI2, bnd, dItem, itemsV, dSlice, dPart, dNoPart, fSlice, A.cut, HT.sIx, A.listOf,  noBor, noBors, views, view, viewN, optAll]
theorem g_minus_eq : f_minus = g_minus := funext fun ps => by
  unfold g_minus
  split
  · rename_i a b c d
    cases h : (mulC a d && mulC c b && mulC b d && !decide (b * d = 0)) with
    | true => exact m_minus h
    | false => rfl
  · rfl
theorem gl_minus {n m : Nat} {p q : Int × Int} (h : LF.Pz n p) (k : LF.Pz m q) (l : n + m < 100000000 := by omega) : g_minus [fr2 p, fr2 q] = .ok (fr2 (LF.minusF p q)) false := by
  have := h.mul k
  rw [← g_minus_eq]
  exact m_minus (by simp [mulC_of h.a k.b l, mulC_of k.a h.b (by omega), mulC_of h.b k.b l]; exact ⟨by have := h.pos; omega, by have := k.pos; omega⟩)
/-- times(one, other) -/
def d_times : DS :=
  dRet (dCall 2 g_share (dCons (dBin fMul (dBin fIx (dVar 0) (dC (.int (0)))) (dBin fIx (dVar 1) (dC (.int (0))))) (dCons (dBin fMul (dBin fIx (dVar 0) (dC (.int (1)))) (dBin fIx (dVar 1) (dC (.int (1))))) (dNil))))
def f_times : PDen := runP 2 d_times
def g_times : PDen := fun ps => match ps with
  | [.tup [.int a, .int b], .tup [.int c, .int d]] => bif mulC a c && mulC b d && !decide (b * d = 0) then .ok (fr2 (lowF (a * c) (b * d))) false else f_times ps
  | ps => f_times ps
theorem m_times {a b c d : Int} (h : (mulC a c && mulC b d && !decide (b * d = 0)) = true) : f_times [.tup [.int a, .int b], .tup [.int c, .int d]] = .ok (fr2 (lowF (a * c) (b * d))) false := by
  simp only [Bool.and_eq_true, decide_eq_true_eq, Bool.not_eq_true', decide_eq_false_iff_not] at h
  simp [f_times, d_times, g_share, h, runP, runI, slots0, A.strip, dRet, dRetN, Res.flow, Res.then, dBin, dI2, dVar, dC, fIx, okP, okV, freeze, L2.atI, L2.ixN, dSeq, dIf, dSet, dExpr, dB, dArg, dCons, dNil, callP, toPs, toP, PRes.res, dNext, dB1, fLen, lenOf, fAbs, fAdd, dAnd, dOr, dNot, dAndV, dOrV, dNotV, dBV, dIfE, dTup, dLst, newL, dAsg, gN, gT, gU, unP, gC, gE, dForE, forR, lstAt, turnsAt, dCompE, compR, isLst, dMeth, dMeth0, putL, itemsOf, fAppend, fExtend, fClear, fPop, fPopAt, fInsert, fReverse, fPut, dPut, fInts, dAug, dNeg, dPar, fInt, fMax2, fMin2, Nat.ble, dBreak, dCont, dComp, compL, noEx, wipeS, dYes, dRange1, dRange2, asI1, asI2, bnd, dItem, itemsV, dSlice, dPart, dNoPart, fSlice, A.cut, HT.sIx, A.listOf,  noBor, noBors, views, view, viewN, optAll]
theorem g_times_eq : f_times = g_times := funext fun ps => by
  unfold g_times
  split
  · rename_i a b c d
    cases h : (mulC a c && mulC b d && !decide (b * d = 0)) with
    | true => exact m_times h
    | false => rfl
  · rfl
theorem gl_times {n m : Nat} {p q : Int × Int} (h : LF.Pz n p) (k : LF.Pz m q) (l : n + m < 100000000 := by omega) : g_times [fr2 p, fr2 q] = .ok (fr2 (LF.timesF p q)) false := by
  have := h.mul k
  rw [← g_times_eq]
  exact m_times (by simp [mulC_of h.a k.a l, mulC_of h.b k.b l]; exact ⟨by have := h.pos; omega, by have := k.pos; omega⟩)
/-- over(one, other) -/
def d_over : DS :=
  dRet (dCall 2 g_share (dCons (dBin fMul (dBin fIx (dVar 0) (dC (.int (0)))) (dBin fIx (dVar 1) (dC (.int (1))))) (dCons (dBin fMul (dBin fIx (dVar 0) (dC (.int (1)))) (dBin fIx (dVar 1) (dC (.int (0))))) (dNil))))
def f_over : PDen := runP 2 d_over
/-- below(one, other) -/
def d_below : DS :=
  dRet (dBin fLt (dBin fMul (dBin fIx (dVar 0) (dC (.int (0)))) (dBin fIx (dVar 1) (dC (.int (1))))) (dBin fMul (dBin fIx (dVar 1) (dC (.int (0)))) (dBin fIx (dVar 0) (dC (.int (1))))))
def f_below : PDen := runP 2 d_below
def g_below : PDen := fun ps => match ps with
  | [.tup [.int a, .int b], .tup [.int c, .int d]] => bif mulC a d && mulC c b then .ok (.bl (decide (a * d < c * b))) false else f_below ps
  | ps => f_below ps
theorem m_below {a b c d : Int} (h : (mulC a d && mulC c b) = true) : f_below [.tup [.int a, .int b], .tup [.int c, .int d]] = .ok (.bl (decide (a * d < c * b))) false := by
  simp only [Bool.and_eq_true, decide_eq_true_eq, Bool.not_eq_true', decide_eq_false_iff_not] at h
  simp [f_below, d_below, h, runP, runI, slots0, A.strip, dRet, dRetN, Res.flow, Res.then, dBin, dI2, dVar, dC, fIx, okP, okV, freeze, L2.atI, L2.ixN, dSeq, dIf, dSet, dExpr, dB, dArg, dCons, dNil, callP, toPs, toP, PRes.res, dNext, dB1, fLen, lenOf, fAbs, fAdd, dAnd, dOr, dNot, dAndV, dOrV, dNotV, dBV, dIfE, dTup, dLst, newL, dAsg, gN, gT, gU, unP, gC, gE, dForE, forR, lstAt, turnsAt, dCompE, compR, isLst, dMeth, dMeth0, putL, itemsOf, fAppend, fExtend, fClear, fPop, fPopAt, fInsert, fReverse, fPut, dPut, fInts, dAug, dNeg, dPar, fInt, fMax2, fMin2, Nat.ble, dBreak, dCont, dComp, compL, noEx, wipeS, dYes, dRange1, dRange2, asI1, asI2, bnd, dItem, itemsV, dSlice, dPart, dNoPart, fSlice, A.cut, HT.sIx, A.listOf,  noBor, noBors, views, view, viewN, optAll]
theorem g_below_eq : f_below = g_below := funext fun ps => by
  unfold g_below
  split
  · rename_i a b c d
    cases h : (mulC a d && mulC c b) with
    | true => exact m_below h
    | false => rfl
  · rfl
theorem gl_below {n m : Nat} {p q : Int × Int} (h : LF.Pz n p) (k : LF.Pz m q) (l : n + m < 100000000 := by omega) : g_below [fr2 p, fr2 q] = .ok (.bl (decide (p.1 * q.2 < q.1 * p.2))) false := by
  rw [← g_below_eq]
  exact m_below (by simp [mulC_of h.a k.b l, mulC_of k.a h.b (by omega)])
/-- greater(one, other) -/
def d_greater : DS :=
  dSeq (dIf (dB (dCall 2 g_below (dCons (dVar 0) (dCons (dVar 1) (dNil))))) (dRet (dVar 1)) (dNext))
  (dRet (dVar 0))
def f_greater : PDen := runP 2 d_greater
/-- lesser(one, other) -/
def d_lesser : DS :=
  dSeq (dIf (dB (dCall 2 g_below (dCons (dVar 1) (dCons (dVar 0) (dNil))))) (dRet (dVar 1)) (dNext))
  (dRet (dVar 0))
def f_lesser : PDen := runP 2 d_lesser
/-- common_bottom(fractions) -/
def d_common_bottom : DS :=
  dSeq (dSet 1 (dC (.int (1))))
  (dSeq (dForE (dVar 0) (gN 2) (dSet 1 (dBin fDiv (dBin fMul (dVar 1) (dBin fIx (dVar 2) (dC (.int (1))))) (dCall 2 g_divisor (dCons (dVar 1) (dCons (dBin fIx (dVar 2) (dC (.int (1)))) (dNil)))))))
  (dRet (dVar 1)))
def f_common_bottom : PDen := runP 3 d_common_bottom
/-- told_form(parts) -/
def d_told_form : DS :=
  dSeq (dSet 1 (dDictT))
  (dSeq (dForE (dVar 0) (gU 2 (gC (gN 2) (gC (gN 3) (gE)))) (dIf (dB (dBin fGt (dBin fIx (dVar 3) (dC (.int (0)))) (dC (.int (0))))) (dTPut (dCall 2 g_plus (dCons (dTGet (dVar 1) (dVar 2) (dTup (dCons (dC (.int (0))) (dCons (dC (.int (1))) (dNil))))) (dCons (dVar 3) (dNil)))) (dVar 1) (dVar 2)) (dNext)))
  (dSeq (dSet 4 (dCall 1 f_common_bottom (dCons (dB1 (fListT false) (dCons (dVar 1) (dNil))) (dNil))))
  (dSeq (dSet 5 (dCall 1 f_common_bottom (dCons (dLstVals false (dVar 1)) (dNil))))
  (dSeq (dSet 6 (dDictT))
  (dSeq (dSet 7 (dC (.int (0))))
  (dSeq (dLock 1 (dFor (dItemsT (dVar 1)) (gU 2 (gC (gN 2) (gC (gN 3) (gE)))) (dSeq (dTPut (dBin fMul (dBin fIx (dVar 3) (dC (.int (0)))) (dBin fDiv (dVar 5) (dBin fIx (dVar 3) (dC (.int (1)))))) (dVar 6) (dVar 2))
  (dSet 7 (dCall 2 g_divisor (dCons (dVar 7) (dCons (dTIx (dVar 6) (dVar 2)) (dNil))))))))
  (dSeq (dSet 8 (dSortL false 4 (dVar 1)))
  (dRet (dCompE false ([2]) (dVar 8) (gN 2) (dYes) (dTup (dCons (dVar 2) (dCons (dBin fDiv (dTIx (dVar 6) (dVar 2)) (dVar 7)) (dNil)))))))))))))
def f_told_form : PDen := runP 9 d_told_form
/-- total_of(table) -/
def d_total_of : DS :=
  dRet (dB1 fSum (dCons (dCompE false ([1, 2]) (dVar 0) (gU 2 (gC (gN 1) (gC (gN 2) (gE)))) (dYes) (dVar 2)) (dNil)))
def f_total_of : PDen := runP 3 d_total_of
/-- mean(table) -/
def d_mean : DS :=
  dSeq (dSet 1 (dTup (dCons (dC (.int (0))) (dCons (dC (.int (1))) (dNil)))))
  (dSeq (dForE (dVar 0) (gU 2 (gC (gN 2) (gC (gN 3) (gE)))) (dSet 1 (dCall 2 g_plus (dCons (dVar 1) (dCons (dCall 2 g_times (dCons (dVar 2) (dCons (dCall 1 f_whole (dCons (dVar 3) (dNil))) (dNil)))) (dNil))))))
  (dRet (dCall 2 g_times (dCons (dVar 1) (dCons (dTup (dCons (dC (.int (1))) (dCons (dCall 1 f_total_of (dCons (dVar 0) (dNil))) (dNil)))) (dNil))))))
def f_mean : PDen := runP 4 d_mean
/-- above(table, level) -/
def d_above : DS :=
  dSeq (dSet 2 (dTup (dCons (dC (.int (0))) (dCons (dC (.int (1))) (dNil)))))
  (dSeq (dForE (dVar 0) (gU 2 (gC (gN 3) (gC (gN 4) (gE)))) (dIf (dB (dCall 2 g_below (dCons (dVar 1) (dCons (dVar 3) (dNil))))) (dSet 2 (dCall 2 g_plus (dCons (dVar 2) (dCons (dCall 2 g_times (dCons (dCall 2 g_minus (dCons (dVar 3) (dCons (dVar 1) (dNil)))) (dCons (dCall 1 f_whole (dCons (dVar 4) (dNil))) (dNil)))) (dNil))))) (dNext)))
  (dRet (dCall 2 g_times (dCons (dVar 2) (dCons (dTup (dCons (dC (.int (1))) (dCons (dCall 1 f_total_of (dCons (dVar 0) (dNil))) (dNil)))) (dNil))))))
def f_above : PDen := runP 5 d_above
/-- share_from(table, level) -/
def d_share_from : DS :=
  dRet (dCall 2 g_share (dCons (dB1 fSum (dCons (dCompE false ([2, 3]) (dVar 0) (gU 2 (gC (gN 2) (gC (gN 3) (gE)))) (dNot (dB (dCall 2 g_below (dCons (dVar 2) (dCons (dVar 1) (dNil)))))) (dVar 3)) (dNil))) (dCons (dCall 1 f_total_of (dCons (dVar 0) (dNil))) (dNil))))
def f_share_from : PDen := runP 4 d_share_from
/-- capped(table, level) -/
def d_capped : DS :=
  dRet (dCall 1 f_told_form (dCons (dCompE false ([2, 3]) (dVar 0) (gU 2 (gC (gN 2) (gC (gN 3) (gE)))) (dYes) (dTup (dCons (dCall 2 f_lesser (dCons (dVar 2) (dCons (dVar 1) (dNil)))) (dCons (dCall 1 f_whole (dCons (dVar 3) (dNil))) (dNil))))) (dNil)))
def f_capped : PDen := runP 4 d_capped
/-- mixed(rows) -/
def d_mixed : DS :=
  dSeq (dSet 1 (dLst true (dNil)))
  (dSeq (dForE (dVar 0) (gU 2 (gC (gN 2) (gC (gN 3) (gE)))) (dSeq (dSet 4 (dCall 1 f_total_of (dCons (dVar 3) (dNil))))
  (dForE (dVar 3) (gU 2 (gC (gN 5) (gC (gN 6) (gE)))) (dExpr (dMeth fAppend (dVar 1) (dCons (dTup (dCons (dVar 5) (dCons (dCall 2 g_share (dCons (dBin fMul (dVar 2) (dVar 6)) (dCons (dVar 4) (dNil)))) (dNil)))) (dNil)))))))
  (dRet (dCall 1 f_told_form (dCons (dVar 1) (dNil)))))
def f_mixed : PDen := runP 7 d_mixed
/-- share_upto(table, level) -/
def d_share_upto : DS :=
  dRet (dCall 2 g_share (dCons (dB1 fSum (dCons (dCompE false ([2, 3]) (dVar 0) (gU 2 (gC (gN 2) (gC (gN 3) (gE)))) (dNot (dB (dCall 2 g_below (dCons (dVar 1) (dCons (dVar 2) (dNil)))))) (dVar 3)) (dNil))) (dCons (dCall 1 f_total_of (dCons (dVar 0) (dNil))) (dNil))))
def f_share_upto : PDen := runP 4 d_share_upto
/-- greatest(tables) -/
def d_greatest : DS :=
  dSeq (dSet 1 (dLst true (dNil)))
  (dSeq (dForE (dVar 0) (gN 2) (dExpr (dMeth fExtend (dVar 1) (dCons (dCompE false ([5, 6]) (dVar 2) (gU 2 (gC (gN 5) (gC (gN 6) (gE)))) (dYes) (dTup (dCons (dVar 5) (dCons (dTup (dCons (dC (.int (1))) (dCons (dC (.int (1))) (dNil)))) (dNil))))) (dNil)))))
  (dSeq (dSet 3 (dLst true (dNil)))
  (dSeq (dSet 4 (dTup (dCons (dC (.int (0))) (dCons (dC (.int (1))) (dNil)))))
  (dSeq (dForE (dCall 1 f_told_form (dCons (dVar 1) (dNil))) (gU 2 (gC (gN 5) (gC (gN 6) (gE)))) (dSeq (dSet 7 (dTup (dCons (dC (.int (1))) (dCons (dC (.int (1))) (dNil)))))
  (dSeq (dForE (dVar 0) (gN 2) (dSet 7 (dCall 2 g_times (dCons (dVar 7) (dCons (dCall 2 f_share_upto (dCons (dVar 2) (dCons (dVar 5) (dNil)))) (dNil))))))
  (dSeq (dExpr (dMeth fAppend (dVar 3) (dCons (dTup (dCons (dVar 5) (dCons (dCall 2 g_minus (dCons (dVar 7) (dCons (dVar 4) (dNil)))) (dNil)))) (dNil))))
  (dSet 4 (dVar 7))))))
  (dRet (dCall 1 f_told_form (dCons (dVar 3) (dNil))))))))
def f_greatest : PDen := runP 8 d_greatest
/-- level_for(table, price) -/
def d_level_for : DS :=
  dSeq (dIf (dB (dBin (fEq false) (dVar 1) (dC (.int (0))))) (dRet (dBin fIx (dBin fIx (dVar 0) (dNeg (dC (.int (1))))) (dC (.int (0))))) (dNext))
  (dSeq (dSet 2 (dC (.int (0))))
  (dSeq (dSet 3 (dCall 2 g_times (dCons (dCall 1 f_whole (dCons (dBin fSub (dC (.int (0))) (dVar 1)) (dNil))) (dCons (dCall 1 f_whole (dCons (dCall 1 f_total_of (dCons (dVar 0) (dNil))) (dNil))) (dNil)))))
  (dSeq (dSet 4 (dVar 3))
  (dSeq (dFor (dRange3 (dCons (dBin fSub (dB1 fLen (dCons (dVar 0) (dNil))) (dC (.int (1)))) (dCons (dNeg (dC (.int (1)))) (dCons (dNeg (dC (.int (1)))) (dNil))))) (gN 5) (dSeq (dAsg (dBin fIx (dVar 0) (dVar 5)) (gU 2 (gC (gN 6) (gC (gN 7) (gE)))))
  (dSeq (dAug false 2 (dVar 7))
  (dSeq (dSet 3 (dCall 2 g_plus (dCons (dVar 3) (dCons (dCall 2 g_times (dCons (dVar 6) (dCons (dCall 1 f_whole (dCons (dVar 7) (dNil))) (dNil)))) (dNil)))))
  (dSeq (dSet 4 (dCall 2 g_times (dCons (dVar 3) (dCons (dTup (dCons (dC (.int (1))) (dCons (dVar 2) (dNil)))) (dNil)))))
  (dIf (dAnd (dB (dBin fGt (dVar 5) (dC (.int (0))))) (dNot (dB (dCall 2 g_below (dCons (dVar 4) (dCons (dBin fIx (dBin fIx (dVar 0) (dBin fSub (dVar 5) (dC (.int (1))))) (dC (.int (0)))) (dNil))))))) (dBreak) (dNext)))))))
  (dRet (dVar 4))))))
def f_level_for : PDen := runP 8 d_level_for
/-- _law_cell(_law_script, _law_k) -/
def d__law_cell : DS :=
  dSeq (dIf (dB (dBin fLt (dVar 1) (dB1 fLen (dCons (dVar 0) (dNil))))) (dRet (dBin fIx (dVar 0) (dVar 1))) (dNext))
  (dRet (dBin (fAdd false) (dBin fMul (dC (.int (7919))) (dVar 1)) (dC (.int (13)))))
def f__law_cell : PDen := runP 2 d__law_cell
/-- _law_mix(_law_cell_here, _law_k) -/
def d__law_mix : DS :=
  dSeq (dSet 2 (dBin fMod (dBin (fAdd false) (dBin (fAdd false) (dBin fMul (dBin fMod (dVar 0) (dC (.int (2147483647)))) (dC (.int (48271)))) (dBin fMul (dC (.int (7919))) (dVar 1))) (dC (.int (1)))) (dC (.int (2147483647)))))
  (dSeq (dSet 2 (dBin fMod (dBin fMul (dVar 2) (dVar 2)) (dC (.int (2147483629)))))
  (dRet (dBin fMod (dBin fMul (dVar 2) (dBin (fAdd false) (dVar 2) (dC (.int (13))))) (dC (.int (2147483647))))))
def f__law_mix : PDen := runP 3 d__law_mix
/-- _law_common(_law_one, _law_other) -/
def d__law_common : DS :=
  dSeq (dSet 0 (dB1 fAbs (dCons (dVar 0) (dNil))))
  (dSeq (dSet 1 (dB1 fAbs (dCons (dVar 1) (dNil))))
  (dSeq (dWhile (natSlot 1) (dB (dBin fGt (dVar 1) (dC (.int (0))))) (dSeq (dSet 2 (dBin fMod (dVar 0) (dVar 1)))
  (dSeq (dSet 0 (dVar 1))
  (dSet 1 (dVar 2)))))
  (dRet (dVar 0))))
def f__law_common : PDen := runP 3 d__law_common
def g__law_common : PDen := fun ps => match ps with
  | [.int a, .int b] => .ok (.int (Int.gcd a b)) false
  | ps => f__law_common ps
theorem m__law_common (a b : Int) : f__law_common [.int a, .int b] = .ok (.int (Int.gcd a b)) false := by
  obtain ⟨r', e⟩ := eu_loop (b.natAbs + 1) a.natAbs b.natAbs none (by omega)
  have ha : (if a < 0 then -a else a) = (a.natAbs : Int) := by split <;> omega
  have hb : (if b < 0 then -b else b) = (b.natAbs : Int) := by split <;> omega
  simp [f__law_common, d__law_common, ha, hb, dWhile, natSlot, e, Int.gcd, runP, runI, slots0, A.strip, dRet, dRetN, Res.flow, Res.then, dBin, dI2, dVar, dC, fIx, okP, okV, freeze, L2.atI, L2.ixN, dSeq, dIf, dSet, dExpr, dB, dArg, dCons, dNil, callP, toPs, toP, PRes.res, dNext, dB1, fLen, lenOf, fAbs, fAdd, dAnd, dOr, dNot, dAndV, dOrV, dNotV, dBV, dIfE, dTup, dLst, newL, dAsg, gN, gT, gU, unP, gC, gE, dForE, forR, lstAt, turnsAt, dCompE, compR, isLst, dMeth, dMeth0, putL, itemsOf, fAppend, fExtend, fClear, fPop, fPopAt, fInsert, fReverse, fPut, dPut, fInts, dAug, dNeg, dPar, fInt, fMax2, fMin2, Nat.ble, dBreak, dCont, dComp, compL, noEx, wipeS, dYes, dRange1, dRange2, asI1, asI2, bnd, dItem, itemsV, dSlice, dPart, dNoPart, fSlice, A.cut, HT.sIx, A.listOf,  noBor, noBors, views, view, viewN, optAll]
theorem g__law_common_eq : f__law_common = g__law_common := funext fun ps => by
  unfold g__law_common
  split
  · exact m__law_common _ _
  · rfl
/-- _law_lowest(_law_top, _law_bottom) -/
def d__law_lowest : DS :=
  dSeq (dSet 2 (dCall 2 g__law_common (dCons (dVar 0) (dCons (dVar 1) (dNil)))))
  (dRet (dTup (dCons (dBin fDiv (dVar 0) (dVar 2)) (dCons (dBin fDiv (dVar 1) (dVar 2)) (dNil)))))
def f__law_lowest : PDen := runP 3 d__law_lowest
def g__law_lowest : PDen := fun ps => match ps with
  | [.int t, .int b] => bif decide (0 < b) then .ok (fr2 (lowF t b)) false else f__law_lowest ps
  | ps => f__law_lowest ps
theorem m__law_lowest (t b : Int) (hb : 0 < b) : f__law_lowest [.int t, .int b] = .ok (fr2 (lowF t b)) false := by
  have g0 : ¬ t.gcd b = 0 := by
    have := Int.gcd_pos_of_ne_zero_right t (b := b) (by omega)
    omega
  have hn : ¬ b < 0 := by omega
  have h0 : ¬ b = 0 := by omega
  simp [f__law_lowest, d__law_lowest, g__law_common, hn, g0, h0, lowF, fr2, runP, runI, slots0, A.strip, dRet, dRetN, Res.flow, Res.then, dBin, dI2, dVar, dC, fIx, okP, okV, freeze, L2.atI, L2.ixN, dSeq, dIf, dSet, dExpr, dB, dArg, dCons, dNil, callP, toPs, toP, PRes.res, dNext, dB1, fLen, lenOf, fAbs, fAdd, dAnd, dOr, dNot, dAndV, dOrV, dNotV, dBV, dIfE, dTup, dLst, newL, dAsg, gN, gT, gU, unP, gC, gE, dForE, forR, lstAt, turnsAt, dCompE, compR, isLst, dMeth, dMeth0, putL, itemsOf, fAppend, fExtend, fClear, fPop, fPopAt, fInsert, fReverse, fPut, dPut, fInts, dAug, dNeg, dPar, fInt, fMax2, fMin2, Nat.ble, dBreak, dCont, dComp, compL, noEx, wipeS, dYes, dRange1, dRange2, asI1, asI2, bnd, dItem, itemsV, dSlice, dPart, dNoPart, fSlice, A.cut, HT.sIx, A.listOf,  noBor, noBors, views, view, viewN, optAll]
theorem g__law_lowest_eq : f__law_lowest = g__law_lowest := funext fun ps => by
  unfold g__law_lowest
  split
  · rename_i t b
    by_cases hb : 0 < b
    · simp [hb, m__law_lowest t b hb]
    · simp [hb]
  · rfl
/-- _law_less(_law_one, _law_other) -/
def d__law_less : DS :=
  dRet (dBin fLt (dBin fMul (dBin fIx (dVar 0) (dC (.int (0)))) (dBin fIx (dVar 1) (dC (.int (1))))) (dBin fMul (dBin fIx (dVar 1) (dC (.int (0)))) (dBin fIx (dVar 0) (dC (.int (1))))))
def f__law_less : PDen := runP 2 d__law_less
/-- _law_table(_law_parts) -/
def d__law_table : DS :=
  dSeq (dSet 1 (dDictT))
  (dSeq (dForE (dVar 0) (gU 2 (gC (gN 2) (gC (gN 3) (gE)))) (dTPut (dBin (fAdd false) (dTGet (dVar 1) (dVar 2) (dC (.int (0)))) (dVar 3)) (dVar 1) (dVar 2)))
  (dSeq (dSet 4 (dLst true (dNil)))
  (dSeq (dLock 1 (dFor (dKeysT (dVar 1)) (gN 2) (dSeq (dSet 5 (dC (.int (0))))
  (dSeq (dWhile (fun _ _ => 1000000) (dAnd (dB (dBin fLt (dVar 5) (dB1 fLen (dCons (dVar 4) (dNil))))) (dB (dCall 2 f__law_less (dCons (dBin fIx (dVar 4) (dVar 5)) (dCons (dVar 2) (dNil)))))) (dSet 5 (dBin (fAdd false) (dVar 5) (dC (.int (1))))))
  (dExpr (dMeth fInsert (dVar 4) (dCons (dVar 5) (dCons (dVar 2) (dNil)))))))))
  (dSeq (dSet 6 (dC (.int (0))))
  (dSeq (dLock 1 (dFor (dKeysT (dVar 1)) (gN 2) (dSet 6 (dCall 2 g__law_common (dCons (dVar 6) (dCons (dTIx (dVar 1) (dVar 2)) (dNil)))))))
  (dRet (dCompE false ([2]) (dVar 4) (gN 2) (dYes) (dTup (dCons (dVar 2) (dCons (dBin fDiv (dTIx (dVar 1) (dVar 2)) (dVar 6)) (dNil)))))))))))
def f__law_table : PDen := runP 7 d__law_table
/-- _law_worth(_law_cell_here) -/
def d__law_worth : DS :=
  dSeq (dIf (dB (dBin (fEq false) (dBin fMod (dVar 0) (dC (.int (4)))) (dC (.int (0))))) (dRet (dTup (dCons (dBin fMod (dBin fDiv (dVar 0) (dC (.int (4)))) (dC (.int (6)))) (dCons (dC (.int (1))) (dNil))))) (dNext))
  (dSeq (dIf (dB (dBin (fEq false) (dBin fMod (dVar 0) (dC (.int (4)))) (dC (.int (1))))) (dRet (dTup (dCons (dBin fMod (dBin fDiv (dVar 0) (dC (.int (4)))) (dBin (fAdd false) (dBin fPow (dC (.int (10))) (dC (.int (9)))) (dC (.int (1))))) (dCons (dC (.int (1))) (dNil))))) (dNext))
  (dSeq (dIf (dB (dBin (fEq false) (dBin fMod (dVar 0) (dC (.int (4)))) (dC (.int (2))))) (dRet (dCall 2 g__law_lowest (dCons (dBin fSub (dBin fMod (dBin fDiv (dVar 0) (dC (.int (4)))) (dC (.int (41)))) (dC (.int (20)))) (dCons (dBin (fAdd false) (dC (.int (1))) (dBin fMod (dBin fDiv (dVar 0) (dC (.int (164)))) (dC (.int (12))))) (dNil))))) (dNext))
  (dRet (dCall 2 g__law_lowest (dCons (dBin fSub (dBin fMod (dBin fDiv (dVar 0) (dC (.int (4)))) (dBin fMul (dC (.int (2))) (dBin fPow (dC (.int (10))) (dC (.int (30)))))) (dBin fPow (dC (.int (10))) (dC (.int (30))))) (dCons (dBin (fAdd false) (dC (.int (1))) (dBin fMod (dBin (fAdd false) (dBin fDiv (dVar 0) (dC (.int (7)))) (dBin fDiv (dVar 0) (dBin fPow (dC (.int (10))) (dC (.int (32)))))) (dBin fPow (dC (.int (10))) (dC (.int (12)))))) (dNil)))))))
def f__law_worth : PDen := runP 1 d__law_worth
end Tb

/-! tables: what told_form and the law's own table are -/
namespace Tb
open PySem PySem.Spec PyProof.Rows L2 A LF DT
open Law (fr2 lowF)
end Tb
local macro_rules | `(tactic| walk_at "a_hint") => `(tactic| first
  | ((with_reducible apply Tb.gl_plus); walk_at "a_pzt"; walk_at "a_pzt"; omega)
  | ((with_reducible apply Tb.gl_minus); walk_at "a_pzt"; walk_at "a_pzt"; omega)
  | ((with_reducible apply Tb.gl_times); walk_at "a_pzt"; walk_at "a_pzt"; omega)
  | ((with_reducible apply Tb.gl_below); walk_at "a_pzt"; walk_at "a_pzt"; omega))
namespace Tb
open PySem PySem.Spec PyProof.Rows L2 A LF DT
open Law (fr2 lowF)
end Tb
local macro_rules | `(tactic| walk_at "a_pzt") => `(tactic| first
  | ((with_reducible apply LF.Pz.plus); walk_at "a_pzt"; walk_at "a_pzt")
  | ((with_reducible apply LF.Pz.minus); walk_at "a_pzt"; walk_at "a_pzt")
  | ((with_reducible apply LF.Pz.times); walk_at "a_pzt"; walk_at "a_pzt"))
namespace Tb
open PySem PySem.Spec PyProof.Rows L2 A LF DT
open Law (fr2 lowF)
theorem div_ok {a b : Int} : g_divisor [.int a, .int b] = .ok (.int (Int.gcd a b)) false := rfl
theorem com_ok {a b : Int} : g__law_common [.int a, .int b] = .ok (.int (Int.gcd a b)) false := rfl
theorem whole_ok (i : Int) : f_whole [.int i] = .ok (fr2 (i, 1)) false := by simp [f_whole, d_whole, fr2, runP, runI, slots0, A.strip, dRet, dRetN, Res.flow, Res.then, dBin, dI2, dVar, dC, fIx, okP, okV, freeze, L2.atI, L2.ixN, dSeq, dIf, dSet, dExpr, dB, dArg, dCons, dNil, callP, toPs, toP, PRes.res, dNext, dB1, fLen, lenOf, fAbs, fAdd, dAnd, dOr, dNot, dAndV, dOrV, dNotV, dBV, dIfE, dTup, dLst, newL, dAsg, gN, gT, gU, unP, gC, gE, dForE, forR, lstAt, turnsAt, dCompE, compR, isLst, dMeth, dMeth0, putL, itemsOf, fAppend, fExtend, fClear, fPop, fPopAt, fInsert, fReverse, fPut, dPut, fInts, dAug, dNeg, dPar, fInt, fMax2, fMin2, Nat.ble, dBreak, dCont, dComp, compL, noEx, wipeS, dYes, dRange1, dRange2, asI1, asI2, bnd, dItem, itemsV, dSlice, dPart, dNoPart, fSlice, A.cut, HT.sIx, A.listOf,  noBor, noBors, views, view, viewN, optAll]
end Tb
local macro_rules | `(tactic| walk_at "a_hint") => `(tactic| first | exact Tb.div_ok | exact Tb.com_ok | exact Tb.whole_ok _)
namespace Tb
open PySem PySem.Spec PyProof.Rows L2 A LF DT
open Law (fr2 lowF)
abbrev Sh := Int × Int
abbrev TRow := (Int × Int) × Int
/-! measures -/
def meas : List (Sh × Rat) → Sh → Rat
  | [], _ => 0
  | e :: r, k => (if e.1 = k then e.2 else 0) + meas r k
theorem meas_app (a b : List (Sh × Rat)) (k : Sh) : meas (a ++ b) k = meas a k + meas b k := by
  induction a with
  | nil => simp only [List.nil_append, meas]; grind
  | cons e a ih => simp only [List.cons_append, meas, ih]; grind
theorem meas_snoc (a : List (Sh × Rat)) (e : Sh × Rat) (k : Sh) : meas (a ++ [e]) k = meas a k + (if e.1 = k then e.2 else 0) := by
  rw [meas_app]
  simp only [meas]
  grind
theorem meas_mul {α : Type} (c : Rat) (f : α → Sh) (g : α → Rat) (k : Sh) : ∀ l : List α, meas (l.map fun x => (f x, c * g x)) k = c * meas (l.map fun x => (f x, g x)) k
  | [] => by simp only [List.map_nil, meas]; grind
  | x :: l => by
    simp only [List.map_cons, meas, meas_mul c f g k l]
    split <;> grind
theorem meas_nn : ∀ {l : List (Sh × Rat)} (k : Sh), (∀ e ∈ l, 0 ≤ e.2) → 0 ≤ meas l k
  | [], _, _ => by simp only [meas]; grind
  | e :: l, k, h => by
    have := meas_nn (l := l) k fun x hx => h x (List.mem_cons_of_mem _ hx)
    have := h e List.mem_cons_self
    simp only [meas]
    split <;> grind
theorem meas_mem : ∀ {l : List (Sh × Rat)} {k : Sh}, meas l k ≠ 0 → k ∈ l.map (·.1)
  | [], _, h => absurd rfl h
  | e :: l, k, h => by
    by_cases q : e.1 = k
    · rw [← q]; simp
    · simp only [meas, if_neg q] at h
      rw [List.map_cons]
      exact List.mem_cons_of_mem _ (meas_mem (by intro z; apply h; rw [z]; grind))
theorem meas_ge : ∀ {l : List (Sh × Rat)} {k : Sh} {e : Sh × Rat}, (∀ e ∈ l, 0 ≤ e.2) → e ∈ l → e.1 = k → e.2 ≤ meas l k
  | x :: l, k, e, h, he, hk => by
    have nn := meas_nn (l := l) k fun x hx => h x (List.mem_cons_of_mem _ hx)
    have := h x List.mem_cons_self
    simp only [meas]
    rcases List.mem_cons.mp he with z | z
    · subst z
      rw [if_pos hk]
      grind
    · have := meas_ge (k := k) (fun x hx => h x (List.mem_cons_of_mem _ hx)) z hk
      split <;> grind
/-! tables -/
structure IsTab (rows : List TRow) (m : Sh → Rat) : Prop where
  lo : ∀ r ∈ rows, Lo r.1
  up : (rows.map (·.1)).Pairwise fun p q => val p < val q
  pos : ∀ r ∈ rows, 1 ≤ r.2
  key : ∀ k, m k ≠ 0 → k ∈ rows.map (·.1)
  at_ : ∃ c : Rat, 0 < c ∧ ∀ r ∈ rows, (r.2 : Rat) = c * m r.1
  one : ∀ d : Int, 0 < d → (∀ r ∈ rows, d ∣ r.2) → rows = [] ∨ d = 1
theorem IsTab.ne {rows : List TRow} {m : Sh → Rat} (h : IsTab rows m) {k : Sh} : k ∈ rows.map (·.1) ↔ m k ≠ 0 := by
  refine ⟨fun hk => ?_, h.key k⟩
  obtain ⟨r, hr, rfl⟩ := List.mem_map.mp hk
  obtain ⟨c, c0, e⟩ := h.at_
  intro z
  have e := e r hr
  rw [z] at e
  have p : (1 : Rat) ≤ (r.2 : Rat) := by exact_mod_cast h.pos r hr
  grind
theorem up_uniq : ∀ {l l' : List Sh}, l.Pairwise (fun p q => val p < val q) → l'.Pairwise (fun p q => val p < val q) → (∀ x, x ∈ l ↔ x ∈ l') → l = l'
  | [], [], _, _, _ => rfl
  | [], y :: _, _, _, h => absurd ((h y).mpr List.mem_cons_self) List.not_mem_nil
  | x :: _, [], _, _, h => absurd ((h x).mp List.mem_cons_self) List.not_mem_nil
  | x :: l, y :: l', h1, h2, h => by
    obtain ⟨a1, a2⟩ := List.pairwise_cons.mp h1
    obtain ⟨b1, b2⟩ := List.pairwise_cons.mp h2
    have e : x = y := by
      rcases List.mem_cons.mp ((h x).mp List.mem_cons_self) with z | z
      · exact z
      · rcases List.mem_cons.mp ((h y).mpr List.mem_cons_self) with w | w
        · exact w.symm
        · have := b1 x z
          have := a1 y w
          grind
    subst e
    congr 1
    refine up_uniq a2 b2 fun z => ?_
    constructor
    · intro hz
      rcases List.mem_cons.mp ((h z).mp (List.mem_cons_of_mem _ hz)) with w | w
      · subst w
        have := a1 z hz
        grind
      · exact w
    · intro hz
      rcases List.mem_cons.mp ((h z).mpr (List.mem_cons_of_mem _ hz)) with w | w
      · subst w
        have := b1 z hz
        grind
      · exact w
theorem cop' {a b d : Int} (h : Int.gcd a b = 1) (k : b ∣ d * a) : b ∣ d := cop h (by rw [Int.mul_comm]; exact k)
/-- a table is known by its shares -/
theorem IsTab.uniq {rows rows' : List TRow} {m m' : Sh → Rat} (h : IsTab rows m) (h' : IsTab rows' m') {c : Rat} (c0 : 0 < c) (e : ∀ k, m' k = c * m k) : rows = rows' := by
  have ks : rows.map (·.1) = rows'.map (·.1) := up_uniq h.up h'.up fun x => by
    rw [h.ne, h'.ne, e]
    constructor
    · intro a b
      rcases Rat.mul_eq_zero.mp b with z | z
      · grind
      · exact a z
    · intro a b
      rw [b] at a
      grind
  have ln : rows.length = rows'.length := by
    have := congrArg List.length ks
    simpa using this
  obtain ⟨c1, _, e1⟩ := h.at_
  obtain ⟨c2, _, e2⟩ := h'.at_
  have cross : ∀ (i j : Nat) (hi : i < rows.length) (hj : j < rows.length), (rows'[i]'(ln ▸ hi)).2 * rows[j].2 = (rows'[j]'(ln ▸ hj)).2 * rows[i].2 := fun i j hi hj => by
    have k1 : (rows'[i]'(ln ▸ hi)).1 = rows[i].1 := by
      have : (rows'.map (·.1))[i]? = (rows.map (·.1))[i]? := by rw [ks]
      simpa [hi, ln ▸ hi] using this
    have k2 : (rows'[j]'(ln ▸ hj)).1 = rows[j].1 := by
      have : (rows'.map (·.1))[j]? = (rows.map (·.1))[j]? := by rw [ks]
      simpa [hj, ln ▸ hj] using this
    have a1 := e1 rows[i] (List.getElem_mem _)
    have a2 := e1 rows[j] (List.getElem_mem _)
    have b1 := e2 (rows'[i]'(ln ▸ hi)) (List.getElem_mem _)
    have b2 := e2 (rows'[j]'(ln ▸ hj)) (List.getElem_mem _)
    rw [k1, e] at b1
    rw [k2, e] at b2
    have : ((rows'[i]'(ln ▸ hi)).2 : Rat) * (rows[j].2 : Rat) = ((rows'[j]'(ln ▸ hj)).2 : Rat) * (rows[i].2 : Rat) := by
      rw [a1, a2, b1, b2]
      grind
    exact_mod_cast this
  by_cases z : rows.length = 0
  · have : rows'.length = 0 := by omega
    rw [List.length_eq_zero_iff.mp z, List.length_eq_zero_iff.mp this]
  have z0 : 0 < rows.length := by omega
  have p1 := h.pos rows[0] (List.getElem_mem _)
  have p2 := h'.pos (rows'[0]'(ln ▸ z0)) (List.getElem_mem _)
  generalize ea : rows[0].2 = a at *
  generalize eb : (rows'[0]'(ln ▸ z0)).2 = b at *
  have g0 : 0 < Int.gcd a b := Int.gcd_pos_of_ne_zero_left _ (by omega)
  obtain ⟨a', ha⟩ : (Int.gcd a b : Int) ∣ a := Int.gcd_dvd_left ..
  obtain ⟨b', hb⟩ : (Int.gcd a b : Int) ∣ b := Int.gcd_dvd_right ..
  generalize hg : (Int.gcd a b : Int) = g at *
  have gp : 0 < g := by omega
  have cp : Int.gcd a' b' = 1 := by
    have h1 : Int.gcd (g * a') (g * b') = g.natAbs * Int.gcd a' b' := Int.gcd_mul_left ..
    rw [← ha, ← hb] at h1
    have h2 : g.natAbs = Int.gcd a b := by omega
    rw [h2] at h1
    exact Nat.eq_of_mul_eq_mul_left g0 (by omega)
  have a1 : 0 < a' := by
    by_cases q : 0 < a'
    · exact q
    · have := Int.mul_nonpos_of_nonneg_of_nonpos (a := g) (b := a') (by omega) (by omega)
      omega
  have b1 : 0 < b' := by
    by_cases q : 0 < b'
    · exact q
    · have := Int.mul_nonpos_of_nonneg_of_nonpos (a := g) (b := b') (by omega) (by omega)
      omega
  have rat : ∀ (i : Nat) (hi : i < rows.length), (rows'[i]'(ln ▸ hi)).2 * a' = rows[i].2 * b' := fun i hi => by
    have := cross i 0 hi z0
    rw [ea, eb, ha, hb] at this
    refine Int.eq_of_mul_eq_mul_left (a := g) (by omega) ?_
    rw [← Int.mul_assoc, Int.mul_comm g, Int.mul_assoc, this]
    rw [Int.mul_comm rows[i].2 b', Int.mul_assoc]
  have e1 : a' = 1 := by
    refine (h.one a' a1 fun r hr => ?_).resolve_left (by intro q; rw [q] at z; exact z rfl)
    obtain ⟨i, hi, rfl⟩ := List.mem_iff_getElem.mp hr
    exact cop' (a := b') (by rw [Int.gcd_comm]; exact cp) ⟨_, by rw [← rat i hi, Int.mul_comm]⟩
  have e2 : b' = 1 := by
    refine (h'.one b' b1 fun r hr => ?_).resolve_left (by intro q; rw [q] at ln; exact z ln)
    obtain ⟨i, hi, rfl⟩ := List.mem_iff_getElem.mp hr
    exact cop' (a := a') cp ⟨_, by rw [rat i (ln ▸ hi), Int.mul_comm]⟩
  subst e1 e2
  refine List.ext_getElem ln fun i hi hj => ?_
  have := rat i hi
  have k1 : rows'[i].1 = rows[i].1 := by
    have : (rows'.map (·.1))[i]? = (rows.map (·.1))[i]? := by rw [ks]
    simpa [hi, hj] using this
  exact Prod.ext k1.symm (by omega)
theorem IsTab.of_eq {rows : List TRow} {m m' : Sh → Rat} (h : IsTab rows m) (e : ∀ k, m' k = m k) : IsTab rows m' := by
  rw [show m' = m from funext e]; exact h
/-- other shares, all by one factor -/
theorem IsTab.scale {rows : List TRow} {m m' : Sh → Rat} (h : IsTab rows m) {c : Rat} (c0 : 0 < c) (e : ∀ k, m' k = c * m k) : IsTab rows m' := by
  obtain ⟨c1, h1, h2⟩ := h.at_
  refine ⟨h.lo, h.up, h.pos, fun k hk => h.key k fun z => hk (by rw [e, z]; grind), ⟨c1 / c, ?_, fun r hr => ?_⟩, h.one⟩
  · rw [Rat.div_def]; exact Rat.mul_pos h1 (Rat.inv_pos.mpr c0)
  · rw [h2 r hr, e]
    have : c ≠ 0 := by grind
    grind
end Tb

/-! told_form: a table of the sums of its parts -/
namespace Tb
open PySem PySem.Spec PyProof.Rows L2 A LF DT
open Law (fr2 lowF)
theorem lcm_step {L b : Int} (hL : 0 < L) (hb : 0 < b) : 0 < (L * b).fdiv (Int.gcd L b : Int) ∧ L ∣ (L * b).fdiv (Int.gcd L b : Int) ∧ b ∣ (L * b).fdiv (Int.gcd L b : Int) ∧ ((L * b).fdiv (Int.gcd L b : Int)).natAbs ≤ (L * b).natAbs := by
  have g0 : 0 < Int.gcd L b := Int.gcd_pos_of_ne_zero_left _ (by omega)
  have d1 : (Int.gcd L b : Int) ∣ L := Int.gcd_dvd_left ..
  have d2 : (Int.gcd L b : Int) ∣ b := Int.gcd_dvd_right ..
  have gp : (0 : Int) < (Int.gcd L b : Int) := by omega
  generalize (Int.gcd L b : Int) = g at gp d1 d2 ⊢
  obtain ⟨l, hl⟩ := d1
  obtain ⟨c, hc⟩ := d2
  have e0 : L * b = g * (L * c) := by rw [hc]; grind
  have e : (L * b).fdiv g = L * c := by
    rw [e0]
    exact Int.mul_fdiv_cancel_left _ (by omega)
  have c0 : 0 < c := by
    by_cases q : 0 < c
    · exact q
    · have := Int.mul_nonpos_of_nonneg_of_nonpos (a := g) (b := c) (by omega) (by omega)
      omega
  rw [e]
  refine ⟨Int.mul_pos hL c0, ⟨c, rfl⟩, ⟨l, ?_⟩, ?_⟩
  · rw [hc]
    conv => lhs; rw [hl]
    grind
  · rw [e0]
    exact abs_le_mul (by omega)
abbrev cbB : DS := dSet 1 (dBin fDiv (dBin fMul (dVar 1) (dBin fIx (dVar 2) (dC (.int (1))))) (dCall 2 g_divisor (dCons (dVar 1) (dCons (dBin fIx (dVar 2) (dC (.int (1)))) (dNil)))))
theorem len_step {α : Type} {done todo ys : List α} {y : α} (h : done ++ y :: todo = ys) (K : Nat) : done.length * K + K ≤ ys.length * K ∧ done.length + 1 ≤ ys.length ∧ (done ++ [y]).length = done.length + 1 ∧ (done ++ [y]).length * K = done.length * K + K := by
  have a : done.length + 1 ≤ ys.length := by rw [← h]; simp
  have b := Nat.mul_le_mul_right K a
  rw [Nat.add_mul, Nat.one_mul] at b
  refine ⟨b, a, by simp, ?_⟩
  rw [List.length_append, List.length_singleton, Nat.add_mul, Nat.one_mul]
theorem cb_ok {t : Bool} {K : Nat} {ps : List Sh} (h : ∀ p ∈ ps, Pz K p) (l : 1 + ps.length * K + K < 100000000) : ∃ q fr, f_common_bottom [.lst t (ps.map fr2)] = .ok q fr ∧ ∃ L, q = .int L ∧ fr = false ∧ 0 < L ∧ Sz (1 + ps.length * K) L ∧ ∀ p ∈ ps, p.2 ∣ L := by
  have zz := forL_all (tg := gN 2) (b := cbB) (fun p => AV.v (fr2 p) false) (fun done _ S st => ∃ L x2, S = [some (.v (.lst t (ps.map fr2)) false), some (.v (.int L) false), x2] ∧ st = [] ∧ 0 < L ∧ Sz (1 + done.length * K) L ∧ ∀ p ∈ done, p.2 ∣ L) ps [some (.v (.lst t (ps.map fr2)) false), some (.v (.int 1) false), none] [] ⟨1, none, rfl, rfl, by decide, (.lit : Sz 1 1).mono (by omega), fun p hp => absurd hp List.not_mem_nil⟩ ?_
  · obtain ⟨S', st', e, L, x2, rfl, rfl, l1, l2, l3⟩ := zz
    refine wp_ok (N := 3) (d := d_common_bottom) ?_
    unfold d_common_bottom
    walk_at "a_slots"
    walk_at "a_wp"
    refine wp_forE (t := t) (enc := fr2) (ys := ps) rfl e ?_
    walk_at "a_wp"
    exact ⟨_, _, _, rfl, L, rfl, rfl, l1, l2, l3⟩
  · rintro done p todo S st hd ⟨L, x2, rfl, rfl, l1, l2, l3⟩
    refine ⟨_, rfl, ?_⟩
    have hp := h p (by rw [← hd]; simp)
    obtain ⟨n1, n2, n3, n4⟩ := len_step hd K
    have g0 : (Int.gcd L p.2 : Int) ≠ 0 := by
      have := Int.gcd_pos_of_ne_zero_left p.2 (a := L) (by omega)
      omega
    have m := mulC_of l2 hp.b (by omega)
    obtain ⟨s1, s2, s3, s4⟩ := lcm_step l1 hp.pos
    walk_at "a_nrm"
    walk_at "a_wp"
    refine ⟨_, _, rfl, rfl, s1, ((l2.mul hp.b).of_le s4).mono (by omega), fun q hq => ?_⟩
    rcases List.mem_append.mp hq with z | z
    · exact Int.dvd_trans (l3 q z) s2
    · rw [List.mem_singleton.mp z]; exact s3
/-! the sums -/
theorem val01 : val (0, 1) = 0 := by
  show ((0 : Int) : Rat) / ((1 : Int) : Rat) = 0
  push_cast
  grind
theorem val_pos {p : Sh} (h : 0 < p.2) : 0 < p.1 ↔ 0 < val p := by
  have := lt_val (p := (0, 1)) (q := p) (by decide : (0 : Int) < 1) h
  rw [val01] at this
  rw [← this]
  simp
theorem val_zero {p : Sh} (h : p.1 = 0) : val p = 0 := by
  unfold val
  rw [h]
  push_cast
  rw [Rat.div_def, Rat.zero_mul]
theorem val_nn {p : Sh} (h : 0 < p.2) (k : 0 ≤ p.1) : 0 ≤ val p := by
  by_cases z : p.1 = 0
  · rw [val_zero z]; grind
  · have := (val_pos h).mp (by omega)
    grind
def partE (e : Sh × Sh) : PV := .tup [fr2 e.1, fr2 e.2]
def vals (parts : List (Sh × Sh)) : List (Sh × Rat) := parts.map fun e => (e.1, val e.2)
/-- the sum of a worth -/
def gv (d : Dc Sh) (k : Sh) : Sh := (dcGet d k).getD (0, 1)
structure SumsOk (K P : Nat) (done : List (Sh × Sh)) (d : Dc Sh) : Prop where
  nd : (d.map (·.1)).Nodup
  key : ∀ e ∈ d, Lo e.1 ∧ Pz K e.1 ∧ e.1 ∈ done.map (·.1)
  vl : ∀ e ∈ d, Pz (1 + done.length * (P + 1)) e.2 ∧ 0 < e.2.1
  len : d.length ≤ done.length
  ms : ∀ k, val (gv d k) = meas (vals done) k
theorem vals_snoc (done : List (Sh × Sh)) (e : Sh × Sh) (k : Sh) : meas (vals (done ++ [e])) k = meas (vals done) k + (if e.1 = k then val e.2 else 0) := by
  unfold vals
  rw [List.map_append]
  exact meas_snoc _ _ _
theorem SumsOk.get {K P : Nat} {done : List (Sh × Sh)} {d : Dc Sh} (h : SumsOk K P done d) (k : Sh) : Pz (1 + done.length * (P + 1)) (gv d k) ∧ 0 ≤ (gv d k).1 := by
  unfold gv
  cases e : dcGet d k with
  | none => exact ⟨⟨by decide, (.lit : Sz 1 0).mono (by omega), (.lit : Sz 1 1).mono (by omega)⟩, by decide⟩
  | some s =>
    have := h.vl _ (dcGet_mem e)
    exact ⟨this.1, by have := this.2; show 0 ≤ s.1; simp only at this; omega⟩
theorem SumsOk.skip {K P : Nat} {done : List (Sh × Sh)} {d : Dc Sh} {e : Sh × Sh} (h : SumsOk K P done d) (z : e.2.1 = 0) : SumsOk K P (done ++ [e]) d := by
  have l : (done ++ [e]).length = done.length + 1 := by simp
  refine ⟨h.nd, fun x hx => ?_, fun x hx => ?_, by have := h.len; omega, fun k => ?_⟩
  · obtain ⟨a, b, c⟩ := h.key x hx
    exact ⟨a, b, by rw [List.map_append]; exact List.mem_append_left _ c⟩
  · obtain ⟨a, b⟩ := h.vl x hx
    refine ⟨a.mono ?_, b⟩
    have := Nat.mul_le_mul_right (P + 1) (show done.length ≤ (done ++ [e]).length by omega)
    omega
  · rw [h.ms, vals_snoc, val_zero z]
    split <;> grind
theorem SumsOk.add {K P : Nat} {done : List (Sh × Sh)} {d : Dc Sh} {e : Sh × Sh} (h : SumsOk K P done d) (h1 : Lo e.1) (h2 : Pz K e.1) (h3 : Pz P e.2) (h4 : 0 < e.2.1) : SumsOk K P (done ++ [e]) (dcPut d e.1 (plusF (gv d e.1) e.2)) := by
  have l : (done ++ [e]).length = done.length + 1 := by simp
  have lm : (done ++ [e]).length * (P + 1) = done.length * (P + 1) + (P + 1) := by rw [l, Nat.add_mul, Nat.one_mul]
  obtain ⟨g1, g2⟩ := h.get e.1
  have sz := g1.plus h3
  have vs : val (plusF (gv d e.1) e.2) = val (gv d e.1) + val e.2 := val_plus g1.pos h3.pos
  refine ⟨dcPut_nd h.nd, fun x hx => ?_, fun x hx => ?_, by have := dcPut_len d e.1 (plusF (gv d e.1) e.2); have := h.len; omega, fun k => ?_⟩
  · rcases mem_put hx with z | ⟨z, _⟩
    · rw [z]
      exact ⟨h1, h2, by simp⟩
    · obtain ⟨a, b, c⟩ := h.key x z
      exact ⟨a, b, by rw [List.map_append]; exact List.mem_append_left _ c⟩
  · rcases mem_put hx with z | ⟨z, _⟩
    · rw [z]
      refine ⟨sz.mono (by omega), (val_pos sz.pos).mpr ?_⟩
      rw [vs]
      have a := val_nn g1.pos g2
      have b := (val_pos h3.pos).mp h4
      grind
    · obtain ⟨a, b⟩ := h.vl x z
      exact ⟨a.mono (by omega), b⟩
  · have e1 := h.ms k
    rw [vals_snoc, ← e1]
    unfold gv
    rw [dcGet_put h.nd]
    by_cases q : k = e.1
    · subst q
      rw [if_pos rfl, if_pos rfl]
      exact vs
    · rw [if_neg q, if_neg fun z => q z.symm]
      grind
abbrev tfS : DS := dIf (dB (dBin fGt (dBin fIx (dVar 3) (dC (.int (0)))) (dC (.int (0))))) (dTPut (dCall 2 g_plus (dCons (dTGet (dVar 1) (dVar 2) (dTup (dCons (dC (.int (0))) (dCons (dC (.int (1))) (dNil))))) (dCons (dVar 3) (dNil)))) (dVar 1) (dVar 2)) (dNext)
abbrev tfT : DG := gU 2 (gC (gN 2) (gC (gN 3) (gE)))
theorem sums_loop {K P : Nat} {parts : List (Sh × Sh)} {x0 : Option AV} (hk : ∀ e ∈ parts, Lo e.1 ∧ Pz K e.1 ∧ Pz P e.2 ∧ 0 ≤ e.2.1) (l : 1 + parts.length * (P + 1) < 100000000) (l2 : parts.length ≤ 900000) :
    ∃ S' st', forL tfT tfS (parts.map fun e => .v (partE e) false) [x0, some (.ref 0), none, none, none, none, none, none, none] [.dT []] = .nx S' st' ∧ ∃ x2 x3 d, S' = [x0, some (.ref 0), x2, x3, none, none, none, none, none] ∧ st' = [.dT (dcK fr2 d)] ∧ SumsOk K P parts d := by
  refine forL_all (tg := tfT) (b := tfS) (fun e => AV.v (partE e) false) (fun done _ S st => ∃ x2 x3 d, S = [x0, some (.ref 0), x2, x3, none, none, none, none, none] ∧ st = [.dT (dcK fr2 d)] ∧ SumsOk K P done d) parts _ _ ⟨none, none, [], rfl, rfl, ⟨by simp, fun e he => absurd he List.not_mem_nil, fun e he => absurd he List.not_mem_nil, by simp, fun k => val01⟩⟩ ?_
  rintro done e todo S st hd ⟨x2, x3, d, rfl, rfl, I⟩
  refine ⟨_, rfl, ?_⟩
  obtain ⟨h1, h2, h3, h4⟩ := hk e (by rw [← hd]; simp)
  obtain ⟨n1, n2, n3, n4⟩ := len_step hd (P + 1)
  obtain ⟨g1, g2⟩ := I.get e.1
  have il := I.len
  have gl := gl_plus g1 h3 (by omega)
  unfold gv at gl
  walk_at "a_nrm"
  walk_at "a_wif"
  · intro c
    simp only [decide_eq_true_eq] at c
    walk_at "a_wp"
    exact ⟨_, _, _, rfl, rfl, I.add h1 h2 h3 c⟩
  · intro c
    simp only [decide_eq_false_iff_not] at c
    walk_at "a_wp"
    exact ⟨_, _, _, rfl, rfl, I.skip (by omega)⟩
/-! the weights -/
def wF (W : Int) (e : Sh × Sh) : Sh × Int := (e.1, e.2.1 * W.fdiv e.2.2)
abbrev tfW : DS := dSeq (dTPut (dBin fMul (dBin fIx (dVar 3) (dC (.int (0)))) (dBin fDiv (dVar 5) (dBin fIx (dVar 3) (dC (.int (1)))))) (dVar 6) (dVar 2))
  (dSet 7 (dCall 2 g_divisor (dCons (dVar 7) (dCons (dTIx (dVar 6) (dVar 2)) (dNil)))))
theorem weigh_loop {n m : Nat} {W : Int} {d : Dc Sh} {x0 x2 x3 x4 x8 : Option AV} (nd : (d.map (·.1)).Nodup) (hd : ∀ e ∈ d, Pz n e.2 ∧ 0 < e.2.1 ∧ e.2.2 ∣ W) (hW : 0 < W) (sW : Sz m W) (l : n + m < 100000000) (l2 : d.length ≤ 900000) :
    ∃ S' st', forL tfT tfW (d.map fun e => .v (partE e) false) [x0, some (.ref 0), x2, x3, x4, some (.v (.int W) false), some (.ref 1), some (.v (.int 0) false), x8] [.lk (dcK fr2 d), .dT []] = .nx S' st' ∧ ∃ x2 x3 b, S' = [x0, some (.ref 0), x2, x3, x4, some (.v (.int W) false), some (.ref 1), some (.v (.int b) false), x8] ∧ st' = [.lk (dcK fr2 d), .dT (dcK PV.int (d.map (wF W)))] ∧ (∀ e ∈ d, b ∣ (wF W e).2) ∧ (∀ c : Int, (∀ e ∈ d, c ∣ (wF W e).2) → c ∣ b) ∧ 0 ≤ b := by
  have zz := forL_all (tg := tfT) (b := tfW) (fun e => AV.v (partE e) false) (fun done _ S st => ∃ x2 x3 b lw, S = [x0, some (.ref 0), x2, x3, x4, some (.v (.int W) false), some (.ref 1), some (.v (.int b) false), x8] ∧ st = [.lk (dcK fr2 d), .dT (dcK PV.int lw)] ∧ lw = done.map (wF W) ∧ (∀ e ∈ done, b ∣ (wF W e).2) ∧ (∀ c : Int, (∀ e ∈ done, c ∣ (wF W e).2) → c ∣ b) ∧ 0 ≤ b) d [x0, some (.ref 0), x2, x3, x4, some (.v (.int W) false), some (.ref 1), some (.v (.int 0) false), x8] [.lk (dcK fr2 d), .dT []] ⟨x2, x3, 0, [], rfl, rfl, rfl, fun e he => absurd he List.not_mem_nil, fun c _ => Int.dvd_zero c, Int.le_refl 0⟩ ?_
  · obtain ⟨S', st', e, x2, x3, b, lw, q1, q2, q3, q4⟩ := zz
    refine ⟨S', st', e, x2, x3, b, q1, ?_, q4⟩
    rw [q2, q3]
  · rintro done e todo S st he ⟨x2, x3, b, lw, rfl, rfl, elw, i1, i2, i3⟩
    refine ⟨_, rfl, ?_⟩
    obtain ⟨h1, h2, h3⟩ := hd e (by rw [← he]; simp)
    have b2 : e.2.2 ≠ 0 := by have := h1.pos; omega
    obtain ⟨c, hc⟩ := h3
    have wc : W.fdiv e.2.2 = c := by rw [hc]; exact Int.mul_fdiv_cancel_left _ b2
    have mC : mulC e.2.1 (W.fdiv e.2.2) = true := by
      refine mulC_of h1.a (sW.of_le (j := W.fdiv e.2.2) ?_) l
      rw [wc, hc]
      exact abs_le_mul b2
    have nk : e.1 ∉ lw.map (·.1) := by
      rw [elw, List.map_map]
      have := nd
      rw [← he, List.map_append, List.map_cons] at this
      have := (List.nodup_append.mp this).2.2
      intro z
      obtain ⟨x, hx, k⟩ := List.mem_map.mp z
      exact this x.1 (List.mem_map.mpr ⟨x, hx, rfl⟩) e.1 List.mem_cons_self k
    have ndl : (lw.map (·.1)).Nodup := by
      rw [elw, List.map_map]
      have := nd
      rw [← he, List.map_append] at this
      exact (List.nodup_append.mp this).1
    have gt : dcGet (dcPut lw e.1 (e.2.1 * W.fdiv e.2.2)) e.1 = some (e.2.1 * W.fdiv e.2.2) := by rw [dcGet_put ndl, if_pos rfl]
    have ll : lw.length < 1000000 := by
      have := congrArg List.length he
      simp only [List.length_append, List.length_cons] at this
      rw [elw, List.length_map]
      omega
    walk_at "a_nrm"
    walk_at "a_wp"
    refine ⟨_, _, _, _, rfl, rfl, ?_, fun x hx => ?_, fun c hc => ?_, by omega⟩
    · rw [dcPut_new nk, elw, List.map_append]; rfl
    · rcases List.mem_append.mp hx with z | z
      · exact Int.dvd_trans (Int.gcd_dvd_left ..) (i1 x z)
      · rw [List.mem_singleton.mp z]; exact Int.gcd_dvd_right ..
    · exact Int.dvd_coe_gcd (i2 c fun x hx => hc x (List.mem_append_left _ hx)) (hc e (by simp))
/-! the worths, rising -/
theorem key_val {L : Int} {p : Sh} (h : 0 < p.2) (k : p.2 ∣ L) : (keyL L p : Rat) = val p * (L : Rat) := by
  obtain ⟨c, hc⟩ := k
  have z : (p.2 : Rat) ≠ 0 := ne_cast (by omega)
  unfold keyL val
  rw [show L.fdiv p.2 = c by rw [hc]; exact Int.mul_fdiv_cancel_left _ (by omega), hc]
  push_cast
  grind
theorem sort_up {L : Int} {ks : List Sh} (hL : 0 < L) (nd : ks.Nodup) (h : ∀ p ∈ ks, Lo p ∧ p.2 ∣ L) : (ks.mergeSort (leL L)).Pairwise fun p q => val p < val q := by
  have s : (ks.mergeSort (leL L)).Pairwise fun p q => leL L p q = true := List.pairwise_mergeSort (fun a b c h1 h2 => by
    unfold leL at *
    simp only [decide_eq_true_eq] at *
    omega) (fun a b => by
    unfold leL
    simp only [Bool.or_eq_true, decide_eq_true_eq]
    omega) ks
  have n : (ks.mergeSort (leL L)).Pairwise (· ≠ ·) := (List.mergeSort_perm ks (leL L)).nodup_iff.mpr nd
  refine (s.and n).imp_of_mem fun {a b} ha hb k => ?_
  obtain ⟨a1, a2⟩ := h a (List.mem_mergeSort.mp ha)
  obtain ⟨b1, b2⟩ := h b (List.mem_mergeSort.mp hb)
  have k1 : keyL L a ≤ keyL L b := of_decide_eq_true k.1
  have k2 : (keyL L a : Rat) ≤ (keyL L b : Rat) := by exact_mod_cast k1
  rw [key_val a1.pos a2, key_val b1.pos b2] at k2
  have L0 : (0 : Rat) < (L : Rat) := by exact_mod_cast hL
  by_cases q : val a < val b
  · exact q
  · have ne : val b ≠ val a := fun z => k.2 (lo_eq a1 b1 z.symm)
    have := (mul_lt L0).mpr (show val b < val a by grind)
    grind
/-- a table of sums and a number that the bottoms divide -/
theorem tab_of {n : Nat} {W b : Int} {d : Dc Sh} {ks : List Sh} {m : Sh → Rat} (hW : 0 < W) (h1 : ∀ e ∈ d, Lo e.1 ∧ Pz n e.2 ∧ 0 < e.2.1 ∧ e.2.2 ∣ W) (nd : (d.map (·.1)).Nodup) (i1 : ∀ e ∈ d, b ∣ (wF W e).2) (i2 : ∀ c : Int, (∀ e ∈ d, c ∣ (wF W e).2) → c ∣ b) (i3 : 0 ≤ b) (up : ks.Pairwise fun p q => val p < val q) (mem : ∀ k, k ∈ ks ↔ k ∈ d.map (·.1)) (ms : ∀ k, val (gv d k) = m k) :
    IsTab (ks.map fun k => (k, ((dcGet (d.map (wF W)) k).getD 0).fdiv b)) m ∧ ∀ k ∈ ks, ∃ w, dcGet (d.map (wF W)) k = some w ∧ b ≠ 0 ∧ ∃ e ∈ d, e.1 = k ∧ w = (wF W e).2 ∧ w ≠ 0 := by
  have wk : (d.map (wF W)).map (·.1) = d.map (·.1) := by rw [List.map_map]; rfl
  have A : ∀ e ∈ d, ∃ w, dcGet (d.map (wF W)) e.1 = some w ∧ w = (wF W e).2 ∧ (w : Rat) = val e.2 * (W : Rat) ∧ 0 < w ∧ 0 < b ∧ b ∣ w := fun e he => by
    obtain ⟨_, p2, p3, p4⟩ := h1 e he
    have g := dcGet_of (d := d.map (wF W)) (by rw [wk]; exact nd) (e := wF W e) (List.mem_map.mpr ⟨e, he, rfl⟩)
    have kv : (((wF W e).2 : Int) : Rat) = val e.2 * (W : Rat) := key_val (L := W) p2.pos p4
    have vp := (val_pos p2.pos).mp p3
    have w0 : (0 : Rat) < (W : Rat) := by exact_mod_cast hW
    have wp : 0 < (wF W e).2 := by
      have : (0 : Rat) < (((wF W e).2 : Int) : Rat) := by rw [kv]; exact Rat.mul_pos vp w0
      exact_mod_cast this
    refine ⟨_, g, rfl, kv, wp, ?_, i1 e he⟩
    by_cases q : b = 0
    · have := i1 e he
      rw [q] at this
      have := Int.zero_dvd.mp this
      omega
    · omega
  have B : ∀ k ∈ ks, ∃ e ∈ d, e.1 = k := fun k hk => by
    obtain ⟨e, he, q⟩ := List.mem_map.mp ((mem k).mp hk)
    exact ⟨e, he, q⟩
  have fst : (ks.map fun k => (k, ((dcGet (d.map (wF W)) k).getD 0).fdiv b)).map (·.1) = ks := by
    rw [List.map_map]
    exact List.map_id' ks
  have div : ∀ w : Int, 0 < b → b ∣ w → w.fdiv b * b = w := fun w _ hd => Int.fdiv_mul_cancel hd
  refine ⟨⟨?_, by rw [fst]; exact up, ?_, ?_, ?_, ?_⟩, ?_⟩
  · intro r hr
    obtain ⟨k, hk, rfl⟩ := List.mem_map.mp hr
    obtain ⟨e, he, rfl⟩ := B k hk
    exact (h1 e he).1
  · intro r hr
    obtain ⟨k, hk, rfl⟩ := List.mem_map.mp hr
    obtain ⟨e, he, rfl⟩ := B k hk
    obtain ⟨w, g, _, _, w0, b0, bd⟩ := A e he
    show 1 ≤ ((dcGet (d.map (wF W)) e.1).getD 0).fdiv b
    rw [g]
    show 1 ≤ w.fdiv b
    have q := div w b0 bd
    by_cases z : 1 ≤ w.fdiv b
    · exact z
    · have := Int.mul_nonpos_of_nonpos_of_nonneg (a := w.fdiv b) (b := b) (by omega) (by omega)
      omega
  · intro k hk
    rw [fst, mem]
    rw [← ms k] at hk
    cases g : dcGet d k with
    | none => exact absurd (by unfold gv; rw [g]; exact val01) hk
    | some s => exact List.mem_map.mpr ⟨_, dcGet_mem g, rfl⟩
  · by_cases z : d = []
    · refine ⟨1, by grind, fun r hr => ?_⟩
      obtain ⟨k, hk, rfl⟩ := List.mem_map.mp hr
      obtain ⟨e, he, _⟩ := B k hk
      rw [z] at he
      cases he
    · obtain ⟨e0, he0⟩ := List.exists_mem_of_ne_nil d z
      obtain ⟨_, _, _, _, _, b0, _⟩ := A e0 he0
      have b0' : (0 : Rat) < (b : Rat) := by exact_mod_cast b0
      have w0 : (0 : Rat) < (W : Rat) := by exact_mod_cast hW
      refine ⟨(W : Rat) / (b : Rat), by rw [Rat.div_def]; exact Rat.mul_pos w0 (Rat.inv_pos.mpr b0'), fun r hr => ?_⟩
      obtain ⟨k, hk, rfl⟩ := List.mem_map.mp hr
      obtain ⟨e, he, rfl⟩ := B k hk
      obtain ⟨w, g, _, kv, _, _, bd⟩ := A e he
      show ((((dcGet (d.map (wF W)) e.1).getD 0).fdiv b : Int) : Rat) = (W : Rat) / (b : Rat) * m e.1
      rw [g, ← ms, show gv d e.1 = e.2 by unfold gv; rw [dcGet_of nd he]; rfl]
      show ((w.fdiv b : Int) : Rat) = _
      have q : ((w.fdiv b : Int) : Rat) * (b : Rat) = (w : Rat) := by exact_mod_cast div w b0 bd
      rw [kv] at q
      grind
  · intro c c0 hc
    by_cases z : d = []
    · left
      cases ek : ks with
      | nil => rfl
      | cons k _ =>
        obtain ⟨e, he, _⟩ := B k (by rw [ek]; exact List.mem_cons_self)
        rw [z] at he
        cases he
    · right
      obtain ⟨e0, he0⟩ := List.exists_mem_of_ne_nil d z
      obtain ⟨_, _, _, _, _, b0, _⟩ := A e0 he0
      have cb : c * b ∣ b := i2 _ fun e he => by
        obtain ⟨w, g, rfl, _, _, _, bd⟩ := A e he
        have := hc (e.1, ((dcGet (d.map (wF W)) e.1).getD 0).fdiv b) (List.mem_map.mpr ⟨e.1, (mem _).mpr (List.mem_map.mpr ⟨e, he, rfl⟩), rfl⟩)
        rw [g] at this
        have this : c ∣ (wF W e).2.fdiv b := this
        rw [← div _ b0 bd]
        exact Int.mul_dvd_mul this (Int.dvd_refl b)
      have le := Int.le_of_dvd b0 cb
      by_cases c1 : c = 1
      · exact c1
      · have := Int.mul_le_mul_of_nonneg_right (show 2 ≤ c by omega) (show 0 ≤ b by omega)
        omega
  · intro k hk
    obtain ⟨e, he, rfl⟩ := B k hk
    obtain ⟨w, g, rfl, _, w0, b0, _⟩ := A e he
    exact ⟨_, g, by omega, e, he, rfl, rfl, by omega⟩
/-- told_form -/
theorem told_ok {t : Bool} {K P : Nat} {parts : List (Sh × Sh)} (hk : ∀ e ∈ parts, Lo e.1 ∧ Pz K e.1 ∧ Pz P e.2 ∧ 0 ≤ e.2.1) (l2 : parts.length ≤ 900000) (l3 : 1 + parts.length * K + K < 100000000) (l4 : 2 + parts.length * (P + 1) + parts.length * (1 + parts.length * (P + 1)) + (1 + parts.length * (P + 1)) < 100000000) :
    ∃ q fr, f_told_form [.lst t (parts.map partE)] = .ok q fr ∧ ∃ rows, q = .lst true (rows.map rowE) ∧ fr = true ∧ IsTab rows (meas (vals parts)) ∧ rows.length ≤ parts.length ∧ ∀ r ∈ rows, Pz K r.1 ∧ r.1 ∈ parts.map (·.1) ∧ Sz (2 + parts.length * (P + 1) + parts.length * (1 + parts.length * (P + 1))) r.2 := by
  obtain ⟨S1, st1, e1, x2, x3, d, rfl, rfl, I⟩ := sums_loop (K := K) (P := P) (x0 := some (.v (.lst t (parts.map partE)) false)) hk (by omega) l2
  have dl := I.len
  obtain ⟨_, _, c1, L, rfl, rfl, L0, sL, L2⟩ := cb_ok (t := true) (K := K) (ps := d.map (·.1)) (fun p hp => by
    obtain ⟨e, he, rfl⟩ := List.mem_map.mp hp
    exact (I.key e he).2.1) (by
    rw [List.length_map]
    have := Nat.mul_le_mul_right K dl
    omega)
  have dm := Nat.mul_le_mul_right (1 + parts.length * (P + 1)) dl
  obtain ⟨_, _, c2, W, rfl, rfl, W0, sW, W2⟩ := cb_ok (t := true) (K := 1 + parts.length * (P + 1)) (ps := d.map (·.2)) (fun p hp => by
    obtain ⟨e, he, rfl⟩ := List.mem_map.mp hp
    exact (I.vl e he).1) (by
    rw [List.length_map]
    omega)
  rw [List.length_map] at sL sW
  obtain ⟨S2, st2, e2, y2, y3, b, rfl, rfl, b1, b2, b3⟩ := weigh_loop (x0 := some (.v (.lst t (parts.map partE)) false)) (x2 := x2) (x3 := x3) (x4 := some (.v (.int L) false)) (x8 := none) I.nd (fun e he => ⟨(I.vl e he).1, (I.vl e he).2, W2 e.2 (List.mem_map.mpr ⟨e, he, rfl⟩)⟩) W0 sW (by omega) (by omega)
  have srt := sort_up (L := L) (ks := d.map (·.1)) L0 I.nd fun p hp => by
    obtain ⟨e, he, rfl⟩ := List.mem_map.mp hp
    exact ⟨(I.key e he).1, L2 _ hp⟩
  have mem : ∀ k, k ∈ (d.map (·.1)).mergeSort (leL L) ↔ k ∈ d.map (·.1) := fun k => List.mem_mergeSort
  have lenS : ((d.map (·.1)).mergeSort (leL L)).length = d.length := by rw [List.length_mergeSort, List.length_map]
  have cond : ∀ p ∈ d.map (·.1), p.2 ≠ 0 ∧ mulC p.1 (L.fdiv p.2) = true := fun p hp => by
    have dv := L2 p hp
    obtain ⟨e, he, rfl⟩ := List.mem_map.mp hp
    have kz := (I.key e he).2.1
    have kp := kz.pos
    refine ⟨by omega, mulC_of kz.a (sL.of_le (j := L.fdiv e.1.2) ?_) ?_⟩
    · obtain ⟨c, hc⟩ := dv
      rw [hc, Int.mul_fdiv_cancel_left _ (by omega)]
      exact abs_le_mul (by omega)
    · have := Nat.mul_le_mul_right K dl
      omega
  obtain ⟨T, T2⟩ := tab_of (n := 1 + parts.length * (P + 1)) (ks := (d.map (·.1)).mergeSort (leL L)) (m := meas (vals parts)) W0 (fun e he => ⟨(I.key e he).1, (I.vl e he).1, (I.vl e he).2, W2 e.2 (List.mem_map.mpr ⟨e, he, rfl⟩)⟩) I.nd b1 b2 b3 srt mem I.ms
  generalize hks : (d.map (·.1)).mergeSort (leL L) = ks at *
  refine wp_ok (N := 9) (d := d_told_form) ?_
  unfold d_told_form
  walk_at "a_slots"
  walk_at "a_wp"
  refine wp_forE (t := t) (enc := partE) (ys := parts) rfl e1 ?_
  walk_at "a_wp"
  refine wp_nx (lock_ok (n := 0) (kvs := dcK fr2 d) (kvs' := dcK fr2 d) rfl rfl (dFor_ok (items_ok (n := 0) (d := d) rfl rfl) e2) rfl) ?_
  refine wp_set (sortL_ok (n := 0) (d := d) (enc := fr2) rfl rfl rfl cond) ?_
  rw [hks]
  walk_at "a_nrm"
  refine wp_ret (compE_enc (t := true) (fr := true) (enc := fr2) (g := fun k => rowE (k, ((dcGet (d.map (wF W)) k).getD 0).fdiv b)) ks rfl (by omega) fun y hy => ?_) ?_
  · obtain ⟨w, g, b0, _⟩ := T2 y hy
    refine ⟨_, rfl, ?_⟩
    rw [g]
    show _ = Res.ok (AV.v (.tup [fr2 y, .int (w.fdiv b)]) false) _
    simp only [wipeS]
    walk_at "a_ev"
  · refine ⟨_, _, _, rfl, ks.map fun k => (k, ((dcGet (d.map (wF W)) k).getD 0).fdiv b), by rw [List.map_map]; rfl, rfl, T, by rw [List.length_map]; omega, fun r hr => ?_⟩
    obtain ⟨k, hk', rfl⟩ := List.mem_map.mp hr
    obtain ⟨w, g, b0, e, he, rfl, rfl, w0⟩ := T2 k hk'
    obtain ⟨k1, k2, k3⟩ := I.key e he
    refine ⟨k2, k3, ?_⟩
    show Sz _ (((dcGet (d.map (wF W)) e.1).getD 0).fdiv b)
    rw [g]
    show Sz _ ((wF W e).2.fdiv b)
    have p := (I.vl e he).1
    have dv := W2 e.2 (List.mem_map.mpr ⟨e, he, rfl⟩)
    have s : Sz (1 + parts.length * (P + 1) + (1 + d.length * (1 + parts.length * (P + 1)))) (wF W e).2 := by
      refine p.a.mul (sW.of_le ?_)
      obtain ⟨c, hc⟩ := dv
      have := p.pos
      rw [hc, Int.mul_fdiv_cancel_left _ (by omega)]
      exact abs_le_mul (by omega)
    refine Sz.mono (s.of_le ?_) (by omega)
    obtain ⟨c, hc⟩ := b1 e he
    rw [hc, Int.mul_fdiv_cancel_left _ b0]
    exact abs_le_mul b0
end Tb

/-! the law's own table of sums -/
namespace Tb
open PySem PySem.Spec PyProof.Rows L2 A LF DT
open Law (fr2 lowF)
/-! comprehensions over a list of the store -/
theorem compR_enc {α : Type} {n : Nat} {tg : DG} {e : DE} {S0 : Slots} {st : Store} (enc : α → AV) (g : α → PV) {ys : List α} (hl : lstAt st n = some (ys.map enc)) (k : ∀ y ∈ ys, ∃ S1, tg (A.strip (enc y)) S0 = some S1 ∧ e S1 st = .ok (.v (g y) false) st) : ∀ (m i : Nat), i + m = ys.length → compR n tg dYes e S0 (m + 1) i st = .ok ((ys.drop i).map fun y => .v (g y) false) st
  | 0, i, q => by
    have : (ys.map enc)[i]? = none := by rw [List.getElem?_eq_none_iff]; simp; omega
    unfold compR
    rw [hl]
    simp only [this]
    rw [List.drop_eq_nil_of_le (by omega)]
    rfl
  | m + 1, i, q => by
    have hi : i < ys.length := by omega
    have e1 : (ys.map enc)[i]? = some (enc ys[i]) := by simp [hi]
    obtain ⟨S1, h1, h2⟩ := k ys[i] (List.getElem_mem hi)
    have ih := compR_enc enc g hl k m (i + 1) (by omega)
    unfold compR
    rw [hl]
    simp only [e1, h1, dYes, Res.then, cond_true, h2, ih]
    rw [List.drop_eq_getElem_cons hi, List.map_cons]
theorem compE_refv {α : Type} {vs : List Nat} {di : DE} {tg : DG} {e : DE} {S : Slots} {st st1 : Store} {n : Nat} (enc : α → AV) (g : α → PV) (ys : List α) (h1 : di S st = .ok (.ref n) st1) (hl : lstAt st1 n = some (ys.map enc)) (l : ys.length ≤ 1000000) (k : ∀ y ∈ ys, ∃ S1, tg (A.strip (enc y)) (wipeS S vs) = some S1 ∧ e S1 st1 = .ok (.v (g y) false) st1) : dCompE false vs di tg dYes e S st = .ok (.v (.lst true (ys.map g)) true) st1 := by
  have c := compR_enc enc g hl k ys.length 0 (by omega)
  rw [List.drop_zero] at c
  have tn : turnsAt st1 n = ys.length + 1 := by simp [turnsAt, hl]
  rw [← tn] at c
  exact compE_ref h1 c (by simp; omega) (toPs_map g false ys)
/-! the sums -/
def ivals (parts : List TRow) : List (Sh × Rat) := parts.map fun e => (e.1, (e.2 : Rat))
def gi (d : Dc Int) (k : Sh) : Int := (dcGet d k).getD 0
structure IntsOk (K P : Nat) (done : List TRow) (d : Dc Int) : Prop where
  nd : (d.map (·.1)).Nodup
  key : ∀ e ∈ d, Lo e.1 ∧ Pz K e.1 ∧ e.1 ∈ done.map (·.1)
  vl : ∀ e ∈ d, Sz (P + done.length) e.2 ∧ 1 ≤ e.2
  len : d.length ≤ done.length
  ms : ∀ k, (gi d k : Rat) = meas (ivals done) k
theorem ivals_snoc (done : List TRow) (e : TRow) (k : Sh) : meas (ivals (done ++ [e])) k = meas (ivals done) k + (if e.1 = k then (e.2 : Rat) else 0) := by
  unfold ivals
  rw [List.map_append]
  exact meas_snoc _ _ _
theorem IntsOk.get {K P : Nat} {done : List TRow} {d : Dc Int} (h : IntsOk K P done d) (k : Sh) : Sz (P + done.length) (gi d k) ∧ 0 ≤ gi d k := by
  unfold gi
  cases e : dcGet d k with
  | none => exact ⟨(.lit : Sz 0 0).mono (by omega), by decide⟩
  | some s =>
    have := h.vl _ (dcGet_mem e)
    exact ⟨this.1, by have := this.2; show 0 ≤ s; simp only at this; omega⟩
theorem IntsOk.add {K P : Nat} {done : List TRow} {d : Dc Int} {e : TRow} (h : IntsOk K P done d) (h1 : Lo e.1) (h2 : Pz K e.1) (h3 : Sz P e.2) (h4 : 1 ≤ e.2) : IntsOk K P (done ++ [e]) (dcPut d e.1 (gi d e.1 + e.2)) := by
  have l : (done ++ [e]).length = done.length + 1 := by simp
  obtain ⟨g1, g2⟩ := h.get e.1
  have sz := g1.add (h3.mono (show P ≤ P + done.length by omega))
  refine ⟨dcPut_nd h.nd, fun x hx => ?_, fun x hx => ?_, by have := dcPut_len d e.1 (gi d e.1 + e.2); have := h.len; omega, fun k => ?_⟩
  · rcases mem_put hx with z | ⟨z, _⟩
    · rw [z]
      exact ⟨h1, h2, by simp⟩
    · obtain ⟨a, b, c⟩ := h.key x z
      exact ⟨a, b, by rw [List.map_append]; exact List.mem_append_left _ c⟩
  · rcases mem_put hx with z | ⟨z, _⟩
    · rw [z]
      exact ⟨sz.mono (by omega), by show 1 ≤ gi d e.1 + e.2; omega⟩
    · obtain ⟨a, b⟩ := h.vl x z
      exact ⟨a.mono (by omega), b⟩
  · have e1 := h.ms k
    rw [ivals_snoc, ← e1]
    unfold gi
    rw [dcGet_put h.nd]
    by_cases q : k = e.1
    · subst q
      rw [if_pos rfl, if_pos rfl]
      show ((((dcGet d e.1).getD 0 + e.2 : Int)) : Rat) = _
      push_cast
      rfl
    · rw [if_neg q, if_neg fun z => q z.symm]
      grind
abbrev ltS : DS := dTPut (dBin (fAdd false) (dTGet (dVar 1) (dVar 2) (dC (.int (0)))) (dVar 3)) (dVar 1) (dVar 2)
theorem ints_loop {K P : Nat} {parts : List TRow} {x0 : Option AV} (hk : ∀ e ∈ parts, Lo e.1 ∧ Pz K e.1 ∧ Sz P e.2 ∧ 1 ≤ e.2) (l2 : parts.length ≤ 900000) :
    ∃ S' st', forL tfT ltS (parts.map fun e => .v (rowE e) false) [x0, some (.ref 0), none, none, none, none, none] [.dT []] = .nx S' st' ∧ ∃ x2 x3 d, S' = [x0, some (.ref 0), x2, x3, none, none, none] ∧ st' = [.dT (dcK PV.int d)] ∧ IntsOk K P parts d := by
  refine forL_all (tg := tfT) (b := ltS) (fun e => AV.v (rowE e) false) (fun done _ S st => ∃ x2 x3 d, S = [x0, some (.ref 0), x2, x3, none, none, none] ∧ st = [.dT (dcK PV.int d)] ∧ IntsOk K P done d) parts _ _ ⟨none, none, [], rfl, rfl, ⟨by simp, fun e he => absurd he List.not_mem_nil, fun e he => absurd he List.not_mem_nil, by simp, fun k => by
    show ((0 : Int) : Rat) = 0
    push_cast
    rfl⟩⟩ ?_
  rintro done e todo S st hd ⟨x2, x3, d, rfl, rfl, I⟩
  refine ⟨_, rfl, ?_⟩
  obtain ⟨h1, h2, h3, h4⟩ := hk e (by rw [← hd]; simp)
  obtain ⟨_, n2, n3, _⟩ := len_step hd 1
  have il := I.len
  walk_at "a_nrm"
  walk_at "a_wp"
  exact ⟨_, _, _, rfl, rfl, I.add h1 h2 h3 h4⟩
/-! the worths, rising -/
def lessF (p q : Sh) : Bool := decide (p.1 * q.2 < q.1 * p.2)
theorem less_ok {n k : Nat} {p q : Sh} (h : Pz n p) (g : Pz k q) (l : n + k < 100000000 := by omega) : f__law_less [fr2 p, fr2 q] = .ok (.bl (lessF p q)) false := by
  have c1 := mulC_of h.a g.b l
  have c2 := mulC_of g.a h.b (by omega)
  obtain ⟨q, fr, e, rfl, rfl⟩ := wp_ok (N := 2) (d := d__law_less) (ps := [fr2 p, fr2 q]) (P := fun x fr => x = .bl (lessF p q) ∧ fr = false) (by
    unfold d__law_less
    walk_at "a_slots"
    walk_at "a_wp"
    exact ⟨_, _, _, rfl, rfl, rfl⟩)
  exact e
end Tb
local macro_rules | `(tactic| walk_at "a_hint") => `(tactic| ((with_reducible apply Tb.less_ok); walk_at "a_pzt"; walk_at "a_pzt"; omega))
namespace Tb
open PySem PySem.Spec PyProof.Rows L2 A LF DT
open Law (fr2 lowF)
theorem lessF_val {p q : Sh} (h : 0 < p.2) (k : 0 < q.2) : lessF p q = decide (val p < val q) := by
  unfold lessF
  exact decide_eq_decide.mpr (lt_val h k)
def posF (v : Sh) : List Sh → Nat
  | [] => 0
  | x :: xs => bif lessF x v then posF v xs + 1 else 0
theorem posF_le (v : Sh) : ∀ ri, posF v ri ≤ ri.length
  | [] => Nat.le_refl _
  | x :: xs => by
    have := posF_le v xs
    unfold posF
    cases lessF x v <;> simp <;> omega
theorem posF_lt (v : Sh) : ∀ (ri : List Sh) (j : Nat), j < posF v ri → ∃ x, ri[j]? = some x ∧ lessF x v = true
  | [], j, h => by simp [posF] at h
  | x :: xs, j, h => by
    unfold posF at h
    cases q : lessF x v with
    | false => rw [q] at h; simp at h
    | true =>
      rw [q] at h
      cases j with
      | zero => exact ⟨x, rfl, q⟩
      | succ j => exact posF_lt v xs j (by simpa using h)
theorem posF_stop (v : Sh) : ∀ ri : List Sh, posF v ri = ri.length ∨ ∃ x, ri[posF v ri]? = some x ∧ lessF x v = false
  | [] => .inl rfl
  | x :: xs => by
    unfold posF
    cases q : lessF x v with
    | false => exact .inr ⟨x, rfl, q⟩
    | true =>
      rcases posF_stop v xs with h | ⟨y, h1, h2⟩
      · exact .inl (by simp [h])
      · exact .inr ⟨y, by simpa using h1, h2⟩
def insS (v : Sh) (ri : List Sh) : List Sh := ri.take (posF v ri) ++ [v] ++ ri.drop (posF v ri)
theorem insS_t {v x : Sh} {xs : List Sh} (h : lessF x v = true) : insS v (x :: xs) = x :: insS v xs := by
  simp [insS, posF, h]
theorem insS_f {v x : Sh} {xs : List Sh} (h : lessF x v = false) : insS v (x :: xs) = v :: x :: xs := by
  simp [insS, posF, h]
theorem mem_ins {v y : Sh} {ri : List Sh} : y ∈ insS v ri ↔ y = v ∨ y ∈ ri := by
  unfold insS
  have := List.take_append_drop (posF v ri) ri
  constructor
  · intro h
    simp only [List.mem_append, List.mem_singleton] at h
    rcases h with (h | h) | h
    · exact .inr (List.mem_of_mem_take h)
    · exact .inl h
    · exact .inr (List.mem_of_mem_drop h)
  · intro h
    simp only [List.mem_append, List.mem_singleton]
    rcases h with h | h
    · exact .inl (.inr h)
    · rw [← this] at h
      rcases List.mem_append.mp h with q | q
      · exact .inl (.inl q)
      · exact .inr q
theorem ins_len {v : Sh} {ri : List Sh} : (insS v ri).length = ri.length + 1 := by
  have := posF_le v ri
  simp [insS]
  omega
theorem ins_up {v : Sh} (hv : Lo v) : ∀ {ri : List Sh}, (∀ x ∈ ri, Lo x) → v ∉ ri → ri.Pairwise (fun p q => val p < val q) → (insS v ri).Pairwise (fun p q => val p < val q)
  | [], _, _, _ => by simp [insS, posF]
  | x :: xs, h, nv, up => by
    rw [List.pairwise_cons] at up
    have hx := h x List.mem_cons_self
    have lv := lessF_val hx.pos hv.pos
    cases q : lessF x v with
    | true =>
      rw [q] at lv
      have lv := of_decide_eq_true lv.symm
      rw [insS_t q, List.pairwise_cons]
      refine ⟨fun y hy => ?_, ins_up hv (fun y hy => h y (List.mem_cons_of_mem _ hy)) (fun z => nv (List.mem_cons_of_mem _ z)) up.2⟩
      rcases mem_ins.mp hy with rfl | hy
      · exact lv
      · exact up.1 y hy
    | false =>
      rw [q] at lv
      have lv := of_decide_eq_false lv.symm
      have l : val v < val x := by
        have : val x ≠ val v := fun z => nv (by rw [← lo_eq hx hv z]; exact List.mem_cons_self)
        grind
      rw [insS_f q, List.pairwise_cons]
      refine ⟨fun y hy => ?_, List.pairwise_cons.mpr up⟩
      rcases List.mem_cons.mp hy with rfl | hy
      · exact l
      · have := up.1 y hy
        grind
theorem while_t {t : DT} {b : DS} {S S1 : Slots} {st st1 : Store} {n : Nat} (h1 : t S st = .ok true st) (h2 : b S st = .nx S1 st1) : whileN t b (n + 1) S st = whileN t b n S1 st1 := by
  conv => lhs; unfold whileN
  rw [h1]
  show (match b S st with
    | .nx S' st' => whileN t b n S' st'
    | .ct S' st' => whileN t b n S' st'
    | .bk S' st' => .nx S' st'
    | r => r) = _
  rw [h2]
theorem while_f {t : DT} {b : DS} {S : Slots} {st : Store} {n : Nat} (h1 : t S st = .ok false st) : whileN t b (n + 1) S st = .nx S st := by
  unfold whileN
  rw [h1]
  rfl
abbrev ltT : DT := dAnd (dB (dBin fLt (dVar 5) (dB1 fLen (dCons (dVar 4) (dNil))))) (dB (dCall 2 f__law_less (dCons (dBin fIx (dVar 4) (dVar 5)) (dCons (dVar 2) (dNil)))))
abbrev ltW : DS := dSet 5 (dBin (fAdd false) (dVar 5) (dC (.int (1))))
def frs (ri : List Sh) : List AV := ri.map fun p => .v (fr2 p) false
abbrev R7 (a x3 x6 : Option AV) (v : Sh) (j : Nat) : Slots := [a, some (.ref 0), some (.v (fr2 v) false), x3, some (.ref 1), some (.v (.int (j : Int)) false), x6]
theorem dAnd_f {a b : DT} {S : Slots} {st st1 : Store} (h : a S st = .ok false st1) : dAnd a b S st = .ok false st1 := by
  unfold dAnd
  rw [h]
  rfl
theorem dAnd_t {a b : DT} {S : Slots} {st st1 : Store} (h : a S st = .ok true st1) : dAnd a b S st = b S st1 := by
  unfold dAnd
  rw [h]
  rfl
theorem lt_len {a x3 x6 : Option AV} {v : Sh} {j : Nat} {o : AO} {ri : List Sh} : dB (dBin fLt (dVar 5) (dB1 fLen (dCons (dVar 4) (dNil)))) (R7 a x3 x6 v j) [o, .lst (frs ri)] = .ok (decide (j < ri.length)) [o, .lst (frs ri)] := by
  have e : fLen [.ref 1] [o, .lst (frs ri)] = .ok (.v (.int (ri.length : Int)) false) [o, .lst (frs ri)] := by
    rw [fLen_ref (ys := frs ri) rfl]
    simp [frs]
  refine dB_ok' (fr := false) (dBin_ok (x := .v (.int (j : Int)) false) (y := .v (.int (ri.length : Int)) false) (st1 := [o, .lst (frs ri)]) (st2 := [o, .lst (frs ri)]) rfl (dB1_ok (xs := [.ref 1]) (st1 := [o, .lst (frs ri)]) rfl e) ?_)
  show Res.ok (AV.v (.bl (decide ((j : Int) < (ri.length : Int)))) false) [o, .lst (frs ri)] = _
  rw [show decide ((j : Int) < (ri.length : Int)) = decide (j < ri.length) by simp]
theorem lt_test {K : Nat} {a x3 x6 : Option AV} {v x : Sh} {j : Nat} {o : AO} {ri : List Sh} (h : ri[j]? = some x) (hx : Pz K x) (hv : Pz K v) (lk : K + K < 100000000) : ltT (R7 a x3 x6 v j) [o, .lst (frs ri)] = .ok (lessF x v) [o, .lst (frs ri)] := by
  have hi := (List.getElem?_eq_some_iff.mp h).1
  have l := lt_len (a := a) (x3 := x3) (x6 := x6) (v := v) (j := j) (o := o) (ri := ri)
  rw [decide_eq_true hi] at l
  have q : L2.atI (frs ri) (j : Int) = some (.v (fr2 x) false) := atN (by simp [frs, h])
  have ix : dBin fIx (dVar 4) (dVar 5) (R7 a x3 x6 v j) [o, .lst (frs ri)] = .ok (.v (fr2 x) false) [o, .lst (frs ri)] := dBin_ok (x := .ref 1) (y := .v (.int (j : Int)) false) rfl rfl (fIx_ref (ys := frs ri) rfl q)
  exact (dAnd_t l).trans (dB_ok' (fr := false) (dCall_ok (xs := [.v (fr2 x) false, .v (fr2 v) false]) (dCons_ok ix rfl) rfl (callP_v (ps := [fr2 x, fr2 v]) rfl (less_ok hx hv lk))))
theorem lt_while {K : Nat} {a x3 x6 : Option AV} {v : Sh} {o : AO} {ri : List Sh} (hr : ∀ x ∈ ri, Pz K x) (hv : Pz K v) (lk : K + K < 100000000) : ∀ (n j : Nat), j ≤ posF v ri → posF v ri < n + j → whileN ltT ltW n (R7 a x3 x6 v j) [o, .lst (frs ri)] = .nx (R7 a x3 x6 v (posF v ri)) [o, .lst (frs ri)]
  | 0, j, h1, h2 => absurd h2 (by omega)
  | n + 1, j, h1, h2 => by
    by_cases hj : j < posF v ri
    · obtain ⟨x, e1, e2⟩ := posF_lt v ri j hj
      have t := lt_test (a := a) (x3 := x3) (x6 := x6) (o := o) e1 (hr x (List.mem_iff_getElem?.mpr ⟨j, e1⟩)) hv lk
      rw [e2] at t
      rw [while_t t (S1 := R7 a x3 x6 v (j + 1)) (st1 := [o, .lst (frs ri)]) ?_]
      · exact lt_while hr hv lk n (j + 1) (by omega) (by omega)
      · exact dSet_ok (x := .v (.int ((j + 1 : Nat) : Int)) false) rfl
    · have ej : j = posF v ri := by omega
      refine (while_f ?_).trans (by rw [ej])
      rcases posF_stop v ri with h | ⟨x, e1, e2⟩
      · have l := lt_len (a := a) (x3 := x3) (x6 := x6) (v := v) (j := j) (o := o) (ri := ri)
        rw [decide_eq_false (by omega)] at l
        exact dAnd_f l
      · rw [← ej] at e1
        have t := lt_test (a := a) (x3 := x3) (x6 := x6) (o := o) e1 (hr x (List.mem_iff_getElem?.mpr ⟨j, e1⟩)) hv lk
        rw [e2] at t
        exact t
abbrev ltI : DS := dExpr (dMeth fInsert (dVar 4) (dCons (dVar 5) (dCons (dVar 2) (dNil))))
theorem lt_ins {a x3 x6 : Option AV} {v : Sh} {o : AO} {ri : List Sh} (hl : ri.length ≤ 900000) : ltI (R7 a x3 x6 v (posF v ri)) [o, .lst (frs ri)] = .nx (R7 a x3 x6 v (posF v ri)) [o, .lst (frs (insS v ri))] := by
  have lt : lstAt [o, .lst (frs ri)] 1 = some (frs ri) := rfl
  have pl := posF_le v ri
  have c : (Nat.blt (frs ri).length 1000000 && decide (0 ≤ ((posF v ri : Nat) : Int)) && bnd ((posF v ri : Nat) : Int)) = true := by
    rw [Bool.and_eq_true, Bool.and_eq_true]
    refine ⟨⟨Nat.ble_eq.mpr (by simp [frs]; omega), decide_eq_true (by omega)⟩, ?_⟩
    unfold bnd
    rw [Bool.and_eq_true]
    exact ⟨decide_eq_true (by omega), decide_eq_true (by omega)⟩
  have e : fInsert (.ref 1) [.v (.int ((posF v ri : Nat) : Int)) false, .v (fr2 v) false] [o, .lst (frs ri)] = .ok (.v .non false) [o, .lst (frs (insS v ri))] := by
    unfold fInsert
    simp only [lt, c, cond_true, putL, Int.toNat_natCast]
    have : (frs ri).take (posF v ri) ++ [A.strip (.v (fr2 v) false)] ++ (frs ri).drop (posF v ri) = frs (insS v ri) := by
      simp [frs, insS, A.strip]
    rw [this]
    rfl
  exact dExpr_ok (x := .v .non false) (dMeth_ok (x := .ref 1) (st1 := [o, .lst (frs ri)]) (st2 := [o, .lst (frs ri)]) rfl rfl rfl e)
abbrev ltB : DS := dSeq (dSet 5 (dC (.int (0)))) (dSeq (dWhile (fun _ _ => 1000000) ltT ltW) ltI)
theorem lt_body {K : Nat} {a x3 x5 x6 : Option AV} {v : Sh} {o : AO} {ri : List Sh} (hr : ∀ x ∈ ri, Pz K x) (hv : Pz K v) (lk : K + K < 100000000) (hl : ri.length ≤ 900000) : ltB [a, some (.ref 0), some (.v (fr2 v) false), x3, some (.ref 1), x5, x6] [o, .lst (frs ri)] = .nx (R7 a x3 x6 v (posF v ri)) [o, .lst (frs (insS v ri))] := by
  have pl := posF_le v ri
  have w := lt_while (a := a) (x3 := x3) (x6 := x6) (o := o) hr hv lk 1000000 0 (by omega) (by omega)
  have w : dWhile (fun _ _ => 1000000) ltT ltW (R7 a x3 x6 v 0) [o, .lst (frs ri)] = .nx (R7 a x3 x6 v (posF v ri)) [o, .lst (frs ri)] := by
    unfold dWhile
    exact w
  exact (dSeq_nx (S1 := R7 a x3 x6 v 0) (st1 := [o, .lst (frs ri)]) rfl).trans ((dSeq_nx w).trans (lt_ins (by omega)))
theorem rise_loop {K : Nat} {a x2 x3 x5 x6 : Option AV} {o : AO} {ks : List Sh} (hk : ∀ x ∈ ks, Pz K x ∧ Lo x) (nd : ks.Nodup) (lk : K + K < 100000000) (hl : ks.length ≤ 900000) :
    ∃ S' st', forL (gN 2) ltB (ks.map fun p => .v (fr2 p) false) [a, some (.ref 0), x2, x3, some (.ref 1), x5, x6] [o, .lst []] = .nx S' st' ∧ ∃ x2 x5 ri, S' = [a, some (.ref 0), x2, x3, some (.ref 1), x5, x6] ∧ st' = [o, .lst (frs ri)] ∧ ri.Pairwise (fun p q => val p < val q) ∧ ri.length = ks.length ∧ ∀ x, x ∈ ri ↔ x ∈ ks := by
  refine forL_all (tg := gN 2) (b := ltB) (fun p => AV.v (fr2 p) false) (fun done _ S st => ∃ x2 x5 ri, S = [a, some (.ref 0), x2, x3, some (.ref 1), x5, x6] ∧ st = [o, .lst (frs ri)] ∧ ri.Pairwise (fun p q => val p < val q) ∧ ri.length = done.length ∧ ∀ x, x ∈ ri ↔ x ∈ done) ks _ _ ⟨x2, x5, [], rfl, rfl, List.Pairwise.nil, rfl, fun x => Iff.rfl⟩ ?_
  rintro done v todo S st hd ⟨x2, x5, ri, rfl, rfl, up, len, mem⟩
  refine ⟨_, rfl, ?_⟩
  obtain ⟨_, n2, n3, _⟩ := len_step hd 1
  have inK : ∀ x ∈ ri, Pz K x ∧ Lo x := fun x hx => hk x (by rw [← hd]; exact List.mem_append_left _ ((mem x).mp hx))
  obtain ⟨v1, v2⟩ := hk v (by rw [← hd]; simp)
  have nv : v ∉ ri := by
    rw [mem]
    rw [← hd] at nd
    intro z
    exact (List.nodup_append.mp nd).2.2 v z v List.mem_cons_self rfl
  have b := lt_body (a := a) (x3 := x3) (x5 := x5) (x6 := x6) (o := o) (fun x hx => (inK x hx).1) v1 lk (show ri.length ≤ 900000 by omega)
  walk_at "a_nrm"
  unfold Wp
  rw [b]
  refine ⟨_, _, _, rfl, rfl, ins_up v2 (fun x hx => (inK x hx).2) nv up, by rw [ins_len, n3, len], fun x => ?_⟩
  rw [mem_ins, mem]
  simp only [List.mem_append, List.mem_singleton]
  constructor
  · rintro (h | h)
    · exact .inr h
    · exact .inl h
  · rintro (h | h)
    · exact .inr h
    · exact .inl h
/-! the common divisor -/
abbrev ltG : DS := dSet 6 (dCall 2 g__law_common (dCons (dVar 6) (dCons (dTIx (dVar 1) (dVar 2)) (dNil))))
theorem com_loop {a x2 x3 x4 x5 : Option AV} {o : AO} {d : Dc Int} (nd : (d.map (·.1)).Nodup) :
    ∃ S' st', forL (gN 2) ltG ((d.map (·.1)).map fun p => .v (fr2 p) false) [a, some (.ref 0), x2, x3, x4, x5, some (.v (.int 0) false)] [.lk (dcK PV.int d), o] = .nx S' st' ∧ ∃ x2 b, S' = [a, some (.ref 0), x2, x3, x4, x5, some (.v (.int b) false)] ∧ st' = [.lk (dcK PV.int d), o] ∧ (∀ k ∈ d.map (·.1), b ∣ gi d k) ∧ (∀ c : Int, (∀ k ∈ d.map (·.1), c ∣ gi d k) → c ∣ b) ∧ 0 ≤ b := by
  refine forL_all (tg := gN 2) (b := ltG) (fun p => AV.v (fr2 p) false) (fun done _ S st => ∃ x2 b, S = [a, some (.ref 0), x2, x3, x4, x5, some (.v (.int b) false)] ∧ st = [.lk (dcK PV.int d), o] ∧ (∀ k ∈ done, b ∣ gi d k) ∧ (∀ c : Int, (∀ k ∈ done, c ∣ gi d k) → c ∣ b) ∧ 0 ≤ b) (d.map (·.1)) _ _ ⟨x2, 0, rfl, rfl, fun e he => absurd he List.not_mem_nil, fun c _ => Int.dvd_zero c, Int.le_refl 0⟩ ?_
  rintro done v todo S st hd ⟨x2, b, rfl, rfl, i1, i2, i3⟩
  refine ⟨_, rfl, ?_⟩
  obtain ⟨e, he, ev⟩ := List.mem_map.mp (show v ∈ d.map (·.1) by rw [← hd]; simp)
  have g : dcGet d v = some (gi d v) := by
    unfold gi
    rw [← ev, dcGet_of nd he]
    rfl
  walk_at "a_nrm"
  walk_at "a_wp"
  refine ⟨_, _, rfl, rfl, fun x hx => ?_, fun c hc => ?_, by omega⟩
  · rcases List.mem_append.mp hx with z | z
    · exact Int.dvd_trans (Int.gcd_dvd_left ..) (i1 x z)
    · rw [List.mem_singleton.mp z]; exact Int.gcd_dvd_right ..
  · exact Int.dvd_coe_gcd (i2 c fun x hx => hc x (List.mem_append_left _ hx)) (hc v (by simp))
theorem itab_of {b : Int} {d : Dc Int} {ks : List Sh} {m : Sh → Rat} (h1 : ∀ e ∈ d, Lo e.1 ∧ 1 ≤ e.2) (nd : (d.map (·.1)).Nodup) (i1 : ∀ k ∈ d.map (·.1), b ∣ gi d k) (i2 : ∀ c : Int, (∀ k ∈ d.map (·.1), c ∣ gi d k) → c ∣ b) (i3 : 0 ≤ b) (up : ks.Pairwise fun p q => val p < val q) (mem : ∀ k, k ∈ ks ↔ k ∈ d.map (·.1)) (ms : ∀ k, (gi d k : Rat) = m k) :
    IsTab (ks.map fun k => (k, (gi d k).fdiv b)) m ∧ ∀ k ∈ ks, dcGet d k = some (gi d k) ∧ b ≠ 0 ∧ b ∣ gi d k ∧ ∃ e ∈ d, e.1 = k ∧ e.2 = gi d k := by
  have A : ∀ k ∈ d.map (·.1), dcGet d k = some (gi d k) ∧ 1 ≤ gi d k ∧ 0 < b ∧ Lo k ∧ ∃ e ∈ d, e.1 = k ∧ e.2 = gi d k := fun k hk => by
    obtain ⟨e, he, rfl⟩ := List.mem_map.mp hk
    have g := dcGet_of nd he
    have ge : gi d e.1 = e.2 := by unfold gi; rw [g]; rfl
    obtain ⟨p1, p2⟩ := h1 e he
    refine ⟨by rw [ge]; exact g, by omega, ?_, p1, e, he, rfl, ge.symm⟩
    by_cases q : b = 0
    · have := i1 e.1 hk
      rw [q] at this
      have := Int.zero_dvd.mp this
      omega
    · omega
  have fst : (ks.map fun k => (k, (gi d k).fdiv b)).map (·.1) = ks := by
    rw [List.map_map]
    exact List.map_id' ks
  have div : ∀ w : Int, b ∣ w → w.fdiv b * b = w := fun w hd => Int.fdiv_mul_cancel hd
  refine ⟨⟨?_, by rw [fst]; exact up, ?_, ?_, ?_, ?_⟩, ?_⟩
  · intro r hr
    obtain ⟨k, hk, rfl⟩ := List.mem_map.mp hr
    exact (A k ((mem k).mp hk)).2.2.2.1
  · intro r hr
    obtain ⟨k, hk, rfl⟩ := List.mem_map.mp hr
    have hk := (mem k).mp hk
    obtain ⟨g, w0, b0, _, _⟩ := A k hk
    show 1 ≤ (gi d k).fdiv b
    have q := div _ (i1 k hk)
    by_cases z : 1 ≤ (gi d k).fdiv b
    · exact z
    · have := Int.mul_nonpos_of_nonpos_of_nonneg (a := (gi d k).fdiv b) (b := b) (by omega) (by omega)
      omega
  · intro k hk
    rw [fst, mem]
    rw [← ms k] at hk
    cases g : dcGet d k with
    | none => exact absurd (by unfold gi; rw [g]; rfl) hk
    | some s => exact List.mem_map.mpr ⟨_, dcGet_mem g, rfl⟩
  · by_cases z : ks = []
    · refine ⟨1, by grind, fun r hr => ?_⟩
      rw [z] at hr
      cases hr
    · obtain ⟨k0, hk0⟩ := List.exists_mem_of_ne_nil ks z
      obtain ⟨_, _, b0, _⟩ := A k0 ((mem k0).mp hk0)
      have b0' : (0 : Rat) < (b : Rat) := by exact_mod_cast b0
      refine ⟨1 / (b : Rat), by rw [Rat.div_def, Rat.one_mul]; exact Rat.inv_pos.mpr b0', fun r hr => ?_⟩
      obtain ⟨k, hk, rfl⟩ := List.mem_map.mp hr
      have hk := (mem k).mp hk
      show (((gi d k).fdiv b : Int) : Rat) = 1 / (b : Rat) * m k
      rw [← ms]
      have q : (((gi d k).fdiv b : Int) : Rat) * (b : Rat) = (gi d k : Rat) := by exact_mod_cast div _ (i1 k hk)
      grind
  · intro c c0 hc
    by_cases z : ks = []
    · exact .inl (by rw [z]; rfl)
    · right
      obtain ⟨k0, hk0⟩ := List.exists_mem_of_ne_nil ks z
      obtain ⟨_, _, b0, _⟩ := A k0 ((mem k0).mp hk0)
      have cb : c * b ∣ b := i2 _ fun k hk => by
        have this : c ∣ (gi d k).fdiv b := hc (k, (gi d k).fdiv b) (List.mem_map.mpr ⟨k, (mem _).mpr hk, rfl⟩)
        rw [← div _ (i1 k hk)]
        exact Int.mul_dvd_mul this (Int.dvd_refl b)
      have le := Int.le_of_dvd b0 cb
      by_cases c1 : c = 1
      · exact c1
      · have := Int.mul_le_mul_of_nonneg_right (show 2 ≤ c by omega) (show 0 ≤ b by omega)
        omega
  · intro k hk
    have hk := (mem k).mp hk
    obtain ⟨g, _, b0, _, q⟩ := A k hk
    exact ⟨g, by omega, i1 k hk, q⟩
/-- the law's table -/
theorem table_ok {t : Bool} {K P : Nat} {parts : List TRow} (hk : ∀ e ∈ parts, Lo e.1 ∧ Pz K e.1 ∧ Sz P e.2 ∧ 1 ≤ e.2) (l2 : parts.length ≤ 900000) (l3 : K + K < 100000000) :
    ∃ q fr, f__law_table [.lst t (parts.map rowE)] = .ok q fr ∧ ∃ rows, q = .lst true (rows.map rowE) ∧ fr = true ∧ IsTab rows (meas (ivals parts)) ∧ rows.length ≤ parts.length ∧ ∀ r ∈ rows, Pz K r.1 ∧ r.1 ∈ parts.map (·.1) ∧ Sz (P + parts.length) r.2 := by
  obtain ⟨S1, st1, e1, x2, x3, d, rfl, rfl, I⟩ := ints_loop (K := K) (P := P) (x0 := some (.v (.lst t (parts.map rowE)) false)) hk l2
  have dl := I.len
  have hks : ∀ x ∈ d.map (·.1), Pz K x ∧ Lo x := fun x hx => by
    obtain ⟨e, he, rfl⟩ := List.mem_map.mp hx
    exact ⟨(I.key e he).2.1, (I.key e he).1⟩
  obtain ⟨S2, st2, e2, y2, y5, ri, rfl, rfl, up, len, mem⟩ := rise_loop (a := some (.v (.lst t (parts.map rowE)) false)) (x2 := x2) (x3 := x3) (x5 := none) (x6 := none) (o := .lk (dcK PV.int d)) hks I.nd l3 (by rw [List.length_map]; omega)
  rw [List.length_map] at len
  obtain ⟨S3, st3, e3, z2, b, rfl, rfl, b1, b2, b3⟩ := com_loop (a := some (.v (.lst t (parts.map rowE)) false)) (x2 := y2) (x3 := x3) (x4 := some (.ref 1)) (x5 := y5) (o := .lst (frs ri)) I.nd
  obtain ⟨T, T2⟩ := itab_of (m := meas (ivals parts)) (fun e he => ⟨(I.key e he).1, (I.vl e he).2⟩) I.nd b1 b2 b3 up mem I.ms
  refine wp_ok (N := 7) (d := d__law_table) ?_
  unfold d__law_table
  walk_at "a_slots"
  walk_at "a_wp"
  refine wp_forE (t := t) (enc := rowE) (ys := parts) rfl e1 ?_
  walk_at "a_wp"
  refine wp_nx (lock_ok (n := 0) (kvs := dcK PV.int d) (kvs' := dcK PV.int d) rfl rfl (dFor_ok (keys_ok (n := 0) (d := d) (enc := PV.int) rfl rfl) e2) rfl) ?_
  walk_at "a_wp"
  refine wp_nx (lock_ok (n := 0) (kvs := dcK PV.int d) (kvs' := dcK PV.int d) rfl rfl (dFor_ok (keys_ok (n := 0) (d := d) (enc := PV.int) rfl rfl) e3) rfl) ?_
  refine wp_ret (compE_refv (n := 1) (fun p => .v (fr2 p) false) (fun k => rowE (k, (gi d k).fdiv b)) ri rfl rfl (by omega) fun y hy => ?_) ?_
  · obtain ⟨g, b0, _⟩ := T2 y hy
    refine ⟨_, rfl, ?_⟩
    show _ = Res.ok (AV.v (.tup [fr2 y, .int ((gi d y).fdiv b)]) false) _
    simp only [wipeS, A.strip]
    walk_at "a_ev"
  · refine ⟨_, _, _, rfl, ri.map fun k => (k, (gi d k).fdiv b), by rw [List.map_map]; rfl, rfl, T, by rw [List.length_map]; omega, fun r hr => ?_⟩
    obtain ⟨k, hk', rfl⟩ := List.mem_map.mp hr
    obtain ⟨g, b0, dv, e, he, rfl, ge⟩ := T2 k hk'
    obtain ⟨k1, k2, k3⟩ := I.key e he
    refine ⟨k2, k3, ?_⟩
    show Sz _ ((gi d e.1).fdiv b)
    have s := (I.vl e he).1
    rw [ge] at s
    refine s.of_le ?_
    obtain ⟨c, hc⟩ := dv
    rw [hc, Int.mul_fdiv_cancel_left _ b0]
    exact abs_le_mul b0
end Tb

/-! what the program and the laws make of tables and of drawn numbers -/
namespace Tb
open PySem PySem.Spec PyProof.Rows L2 A LF DT
open Law (fr2 lowF)
/-! the script's parts -/
theorem cell_ok (ns : List Int) (k : Nat) (hk : k < 100) : ∃ v, f__law_cell [.scr ns, .int k] = .ok (.int v) false := by
  have m : mulC 7919 k = true := mulC_of (a := 20) (b := 20) .lit (by unfold Sz; omega)
  by_cases h : k < ns.length
  · exact ⟨ns[k], by simp [f__law_cell, d__law_cell, h, runP, runI, slots0, A.strip, dRet, dRetN, Res.flow, Res.then, dBin, dI2, dVar, dC, fIx, okP, okV, freeze, L2.atI, L2.ixN, dSeq, dIf, dSet, dExpr, dB, dArg, dCons, dNil, callP, toPs, toP, PRes.res, dNext, dB1, fLen, lenOf, fAbs, fAdd, dAnd, dOr, dNot, dAndV, dOrV, dNotV, dBV, dIfE, dTup, dLst, newL, dAsg, gN, gT, gU, unP, gC, gE, dForE, forR, lstAt, turnsAt, dCompE, compR, isLst, dMeth, dMeth0, putL, itemsOf, fAppend, fExtend, fClear, fPop, fPopAt, fInsert, fReverse, fPut, dPut, fInts, dAug, dNeg, dPar, fInt, fMax2, fMin2, Nat.ble, dBreak, dCont, dComp, compL, noEx, wipeS, dYes, dRange1, dRange2, asI1, asI2, bnd, dItem, itemsV, dSlice, dPart, dNoPart, fSlice, A.cut, HT.sIx, A.listOf,  noBor, noBors, views, view, viewN, optAll]⟩
  · exact ⟨7919 * k + 13, by simp [f__law_cell, d__law_cell, h, m, runP, runI, slots0, A.strip, dRet, dRetN, Res.flow, Res.then, dBin, dI2, dVar, dC, fIx, okP, okV, freeze, L2.atI, L2.ixN, dSeq, dIf, dSet, dExpr, dB, dArg, dCons, dNil, callP, toPs, toP, PRes.res, dNext, dB1, fLen, lenOf, fAbs, fAdd, dAnd, dOr, dNot, dAndV, dOrV, dNotV, dBV, dIfE, dTup, dLst, newL, dAsg, gN, gT, gU, unP, gC, gE, dForE, forR, lstAt, turnsAt, dCompE, compR, isLst, dMeth, dMeth0, putL, itemsOf, fAppend, fExtend, fClear, fPop, fPopAt, fInsert, fReverse, fPut, dPut, fInts, dAug, dNeg, dPar, fInt, fMax2, fMin2, Nat.ble, dBreak, dCont, dComp, compL, noEx, wipeS, dYes, dRange1, dRange2, asI1, asI2, bnd, dItem, itemsV, dSlice, dPart, dNoPart, fSlice, A.cut, HT.sIx, A.listOf,  noBor, noBors, views, view, viewN, optAll]⟩
theorem mix_ok (v : Int) (k : Int) (h0 : 0 ≤ k) (h1 : k ≤ 64) : ∃ r, f__law_mix [.int v, .int k] = .ok (.int r) false ∧ 0 ≤ r ∧ r < 2147483647 := by
  obtain ⟨a0, a1⟩ := fmod_pos (i := v) (j := 2147483647) (by decide)
  have c1 : mulC (v.fmod 2147483647) 48271 = true := mulC_of (a := 31) (b := 20) (by unfold Sz; omega) .lit
  have c2 : mulC 7919 k = true := mulC_of (a := 20) (b := 20) .lit (by unfold Sz; omega)
  obtain ⟨x, hx⟩ : ∃ x, (v.fmod 2147483647 * 48271 + 7919 * k + 1).fmod 2147483647 = x := ⟨_, rfl⟩
  have x0 := fmod_pos (i := v.fmod 2147483647 * 48271 + 7919 * k + 1) (j := 2147483647) (by decide)
  rw [hx] at x0
  have c3 : mulC x x = true := mulC_of (a := 31) (b := 31) (by unfold Sz; omega) (by unfold Sz; omega)
  obtain ⟨y, hy⟩ : ∃ y, (x * x).fmod 2147483629 = y := ⟨_, rfl⟩
  have y0 := fmod_pos (i := x * x) (j := 2147483629) (by decide)
  rw [hy] at y0
  have c4 : mulC y (y + 13) = true := mulC_of (a := 32) (b := 32) (by unfold Sz; omega) (by unfold Sz; omega)
  have z0 := fmod_pos (i := y * (y + 13)) (j := 2147483647) (by decide)
  refine ⟨(y * (y + 13)).fmod 2147483647, runP_v (st1 := []) ?_, by omega⟩
  unfold d__law_mix
  refine (dSeq_nx (S1 := [some (.v (.int v) false), some (.v (.int k) false), some (.v (.int x) false)]) (st1 := []) ?_).trans ((dSeq_nx (S1 := [some (.v (.int v) false), some (.v (.int k) false), some (.v (.int y) false)]) (st1 := []) ?_).trans ?_)
  · refine dSet_ok (x := .v (.int x) false) ?_
    simp [slots0, A.strip, dBin, dI2, dVar, dC, fAdd, c1, c2, hx, Res.then]
  · refine dSet_ok (x := .v (.int y) false) ?_
    simp [dBin, dI2, dVar, dC, c3, hy, Res.then]
  · refine dRet_ok ?_
    simp [dBin, dI2, dVar, dC, fAdd, c4, Res.then]
theorem lowest_ok {t b : Int} (h : 0 < b) : g__law_lowest [.int t, .int b] = .ok (fr2 (lowF t b)) false := by rw [← g__law_lowest_eq]; exact m__law_lowest t b h
theorem share_ok {t b : Int} (h : b ≠ 0) : g_share [.int t, .int b] = .ok (fr2 (lowF t b)) false := by rw [← g_share_eq]; exact m_share t b h
end Tb
local macro_rules | `(tactic| walk_at "a_hint") => `(tactic| first | ((with_reducible apply Tb.lowest_ok); (first | assumption | omega)) | ((with_reducible apply Tb.share_ok); first | assumption | omega))
namespace Tb
open PySem PySem.Spec PyProof.Rows L2 A LF DT
open Law (fr2 lowF)
theorem lo_one (i : Int) : Lo (i, 1) := ⟨(by decide : (0 : Int) < 1), by simp⟩
theorem pz_one {n : Nat} {i : Int} (h : Sz n i) : Pz (n + 1) (i, 1) := ⟨(by decide : (0 : Int) < 1), h.mono (by omega), (.lit : Sz 1 1).mono (by omega)⟩
theorem val_one (i : Int) : val (i, 1) = (i : Rat) := by
  show (i : Rat) / ((1 : Int) : Rat) = _
  push_cast
  grind
theorem sz_of {n : Nat} {i b : Int} (h1 : -b ≤ i) (h2 : i ≤ b) (hb : b < 2 ^ n) : Sz n i := by
  unfold Sz
  have h : (i.natAbs : Int) < ((2 ^ n : Nat) : Int) := by
    push_cast
    omega
  exact_mod_cast h
theorem low_pz {n : Nat} {t b : Int} (ht : Sz n t) (hb : Sz n b) (h : 0 < b) : Pz n (lowF t b) ∧ Lo (lowF t b) := ⟨Pz.low ht hb (by omega), lo_low (by omega)⟩
theorem worth_ok (v : Int) : ∃ q fr, f__law_worth [.int v] = .ok q fr ∧ ∃ p, q = fr2 p ∧ Pz 110 p ∧ Lo p := by
  obtain ⟨a0, a1⟩ := fmod_pos (i := v.fdiv 4) (j := 6) (by decide)
  obtain ⟨b0, b1⟩ := fmod_pos (i := v.fdiv 4) (j := 1000000000 + 1) (by decide)
  obtain ⟨c0, c1⟩ := fmod_pos (i := v.fdiv 4) (j := 41) (by decide)
  obtain ⟨d0, d1⟩ := fmod_pos (i := v.fdiv 164) (j := 12) (by decide)
  obtain ⟨e0, e1⟩ := fmod_pos (i := v.fdiv 4) (j := 2 * 1000000000000000000000000000000) (by decide)
  obtain ⟨f0, f1⟩ := fmod_pos (i := v.fdiv 7 + v.fdiv 100000000000000000000000000000000) (j := 1000000000000) (by decide)
  refine wp_ok (N := 1) (d := d__law_worth) ?_
  unfold d__law_worth
  walk_at "a_slots"
  walk_at "a_wif"
  · intro _
    walk_at "a_wp"
    exact ⟨_, _, _, rfl, _, rfl, (pz_one (n := 109) (sz_of (b := 100) (by omega) (by omega) (by decide))), lo_one _⟩
  intro _
  walk_at "a_wp"
  walk_at "a_wif"
  · intro _
    walk_at "a_wp"
    exact ⟨_, _, _, rfl, _, rfl, (pz_one (n := 109) (sz_of (b := 10000000000) (by omega) (by omega) (by decide))), lo_one _⟩
  intro _
  walk_at "a_wp"
  walk_at "a_wif"
  · intro _
    have p0 : 0 < 1 + (v.fdiv 164).fmod 12 := by omega
    walk_at "a_wp"
    exact ⟨_, _, _, rfl, _, rfl, low_pz (sz_of (b := 100) (by omega) (by omega) (by decide)) (sz_of (b := 100) (by omega) (by omega) (by decide)) p0⟩
  intro _
  have p0 : 0 < 1 + (v.fdiv 7 + v.fdiv 100000000000000000000000000000000).fmod 1000000000000 := by omega
  walk_at "a_wp"
  refine ⟨_, _, _, rfl, _, rfl, ?_⟩
  exact low_pz (sz_of (b := 10000000000000000000000000000000) (by omega) (by omega) (by decide)) (sz_of (b := 10000000000000000000000000000000) (by omega) (by omega) (by decide)) p0
/-! sums over rows -/
def tot : List TRow → Int
  | [] => 0
  | r :: rs => r.2 + tot rs
theorem sum_tot : ∀ rows : List TRow, (rows.map (·.2)).sum = tot rows
  | [] => rfl
  | r :: rs => by simp only [List.map_cons, List.sum_cons, tot, sum_tot rs]
def sumR {α : Type} (f : α → Rat) : List α → Rat
  | [] => 0
  | x :: xs => f x + sumR f xs
theorem sumR_snoc {α : Type} (f : α → Rat) (y : α) : ∀ xs : List α, sumR f (xs ++ [y]) = sumR f xs + f y
  | [] => by simp only [List.nil_append, sumR]; grind
  | x :: xs => by simp only [List.cons_append, sumR, sumR_snoc f y xs]; grind
theorem sumR_map {α β : Type} (f : β → Rat) (g : α → β) : ∀ xs : List α, sumR f (xs.map g) = sumR (fun x => f (g x)) xs
  | [] => rfl
  | x :: xs => by simp only [List.map_cons, sumR, sumR_map f g xs]
theorem sumR_congr {α : Type} {f g : α → Rat} : ∀ {xs : List α}, (∀ x ∈ xs, f x = g x) → sumR f xs = sumR g xs
  | [], _ => rfl
  | x :: xs, h => by simp only [sumR, h x List.mem_cons_self, sumR_congr fun y hy => h y (List.mem_cons_of_mem _ hy)]
theorem sumR_filter {α : Type} (f : α → Rat) (c : α → Bool) : ∀ xs : List α, sumR f (xs.filter c) = sumR (fun x => if c x = true then f x else 0) xs
  | [] => rfl
  | x :: xs => by
    rw [List.filter_cons]
    split <;> rename_i q <;> simp only [sumR, sumR_filter f c xs, q, if_true] <;> grind
/-- rows as they are drawn and told -/
structure Rows (K P : Nat) (rows : List TRow) : Prop where
  ok : ∀ r ∈ rows, Lo r.1 ∧ Pz K r.1 ∧ Sz P r.2 ∧ 1 ≤ r.2
theorem Rows.tail {K P : Nat} {r : TRow} {rs : List TRow} (h : Rows K P (r :: rs)) : Rows K P rs := ⟨fun x hx => h.ok x (List.mem_cons_of_mem _ hx)⟩
theorem tot_sz {K P : Nat} : ∀ {rows : List TRow}, Rows K P rows → Sz (P + rows.length) (tot rows) ∧ (rows.length : Int) ≤ tot rows
  | [], _ => ⟨(.lit : Sz 0 0).mono (by omega), by simp [tot]⟩
  | r :: rs, h => by
    obtain ⟨a, b⟩ := tot_sz h.tail
    obtain ⟨_, _, c, d⟩ := h.ok r List.mem_cons_self
    simp only [tot, List.length_cons]
    exact ⟨((c.mono (show P ≤ P + rs.length by omega)).add a).mono (by omega), by omega⟩
theorem tot_pos {K P : Nat} {rows : List TRow} (h : Rows K P rows) (ne : rows ≠ []) : 0 < tot rows := by
  have := (tot_sz h).2
  have : 1 ≤ rows.length := by
    cases rows with
    | nil => exact absurd rfl ne
    | cons _ _ => simp
  omega
theorem fSum_ok {t fr : Bool} {ws : List Int} {st : Store} : fSum [.v (.lst t (ws.map PV.int)) fr] st = .ok (.v (.int ws.sum) false) st := by
  have e : intsOf st (.v (.lst t (ws.map PV.int)) fr) = some ws := by
    show toInts ((ws.map PV.int).map (AV.v · false)) = _
    rw [List.map_map]
    exact toInts_map ws
  show (match intsOf st (.v (.lst t (ws.map PV.int)) fr) with
    | some ns => Res.ok (AV.v (PV.int ns.sum) false) st
    | none => Res.bad) = _
  rw [e]
theorem total_ok {t : Bool} {rows : List TRow} (l : rows.length ≤ 1000000) : f_total_of [.lst t (rows.map rowE)] = .ok (.int (tot rows)) false := by
  obtain ⟨q, fr, e, rfl, rfl⟩ := wp_ok (N := 3) (d := d_total_of) (ps := [.lst t (rows.map rowE)]) (P := fun q fr => q = .int (tot rows) ∧ fr = false) (by
    unfold d_total_of
    walk_at "a_slots"
    refine wp_ret (x := .v (.int (tot rows)) false) (st1 := []) (dB1_ok (dCons_ok (compE_enc (t := t) (fr := false) (enc := rowE) (g := fun r => PV.int r.2) rows rfl l fun y _ => ⟨_, rfl, rfl⟩) rfl) ?_) ?_
    · rw [show (rows.map fun r => PV.int r.2) = (rows.map (·.2)).map PV.int by rw [List.map_map]; rfl, fSum_ok, sum_tot]
    · exact ⟨_, _, _, rfl, rfl, rfl⟩)
  exact e
end Tb
local macro_rules | `(tactic| walk_at "a_hint") => `(tactic| ((with_reducible apply Tb.total_ok); first | assumption | omega))
namespace Tb
open PySem PySem.Spec PyProof.Rows L2 A LF DT
open Law (fr2 lowF)
theorem tot_rat {rows : List TRow} : (tot rows : Rat) = sumR (fun r => (r.2 : Rat)) rows := by
  induction rows with
  | nil => simp only [tot, sumR]; push_cast; rfl
  | cons r rs ih => simp only [tot, sumR, ← ih]; push_cast; rfl
theorem val_inv {W : Int} : val (1, W) = 1 / (W : Rat) := by
  show ((1 : Int) : Rat) / (W : Rat) = _
  push_cast
  rfl
abbrev meB : DS := dSet 1 (dCall 2 g_plus (dCons (dVar 1) (dCons (dCall 2 g_times (dCons (dVar 2) (dCons (dCall 1 f_whole (dCons (dVar 3) (dNil))) (dNil)))) (dNil))))
/-- the sum of the worths by their weights -/
theorem mean_ok {t : Bool} {K P : Nat} {rows : List TRow} (h : Rows K P rows) (ne : rows ≠ []) (l : rows.length ≤ 1000000) (l2 : 1 + rows.length * (K + P + 2) + (K + P + 2) + (P + rows.length + 1) < 100000000) :
    ∃ q fr, f_mean [.lst t (rows.map rowE)] = .ok q fr ∧ ∃ p, q = fr2 p ∧ Lo p ∧ val p = sumR (fun r => val r.1 * (r.2 : Rat)) rows / (tot rows : Rat) ∧ Pz (1 + rows.length * (K + P + 2) + (P + rows.length + 1)) p := by
  obtain ⟨ts, tl⟩ := tot_sz h
  have tp := tot_pos h ne
  have zz := forL_all (tg := gU 2 (gC (gN 2) (gC (gN 3) (gE)))) (b := meB) (fun r => AV.v (rowE r) false) (fun done _ S st => ∃ f g x2 x3, S = [some (.v (.lst t (rows.map rowE)) false), some (.v (fr2 f) g), x2, x3] ∧ st = [] ∧ Pz (1 + done.length * (K + P + 2)) f ∧ val f = sumR (fun r => val r.1 * (r.2 : Rat)) done) rows [some (.v (.lst t (rows.map rowE)) false), some (.v (fr2 (0, 1)) false), none, none] [] ⟨(0, 1), false, none, none, rfl, rfl, ⟨by decide, (.lit : Sz 1 0).mono (by omega), (.lit : Sz 1 1).mono (by omega)⟩, val01⟩ ?_
  · obtain ⟨S', st', e, f, g, x2, x3, rfl, rfl, f1, f2⟩ := zz
    refine wp_ok (N := 4) (d := d_mean) ?_
    unfold d_mean
    walk_at "a_slots"
    walk_at "a_wp"
    refine wp_forE (t := t) (enc := rowE) (ys := rows) rfl e ?_
    have z : Pz (P + rows.length + 1) (1, tot rows) := ⟨tp, (.lit : Sz 1 1).mono (by omega), ts.mono (by omega)⟩
    have := f1.times z
    walk_at "a_wp"
    refine ⟨_, _, _, rfl, _, rfl, lo_low (by have := f1.mul z; omega), ?_, f1.times z⟩
    rw [show val (timesF f (1, tot rows)) = val f * val (1, tot rows) from val_times f1.pos tp, f2, val_inv]
    have : (tot rows : Rat) ≠ 0 := ne_cast (by omega)
    grind
  · rintro done r todo S st hd ⟨f, g, x2, x3, rfl, rfl, f1, f2⟩
    refine ⟨_, rfl, ?_⟩
    obtain ⟨h1, h2, h3, h4⟩ := h.ok r (by rw [← hd]; simp)
    obtain ⟨n1, n2, n3, n4⟩ := len_step hd (K + P + 2)
    have w := pz_one h3
    have m := h2.times w
    walk_at "a_nrm"
    walk_at "a_wp"
    refine ⟨_, _, _, _, rfl, rfl, (f1.plus m).mono (by omega), ?_⟩
    rw [show val (plusF f (timesF r.1 (r.2, 1))) = val f + val (timesF r.1 (r.2, 1)) from val_plus f1.pos m.pos, show val (timesF r.1 (r.2, 1)) = val r.1 * val (r.2, 1) from val_times h2.pos w.pos, f2, sumR_snoc, val_one]
/-- what is above a level -/
def gapR (l : Sh) (r : TRow) : Rat := if val l < val r.1 then (val r.1 - val l) * (r.2 : Rat) else 0
abbrev abB : DS := dIf (dB (dCall 2 g_below (dCons (dVar 1) (dCons (dVar 3) (dNil))))) (dSet 2 (dCall 2 g_plus (dCons (dVar 2) (dCons (dCall 2 g_times (dCons (dCall 2 g_minus (dCons (dVar 3) (dCons (dVar 1) (dNil)))) (dCons (dCall 1 f_whole (dCons (dVar 4) (dNil))) (dNil)))) (dNil))))) (dNext)
theorem above_ok {t : Bool} {K P Q : Nat} {rows : List TRow} {lv : Sh} (h : Rows K P rows) (hl : Pz Q lv) (ne : rows ≠ []) (l : rows.length ≤ 1000000) (l2 : 1 + rows.length * (K + P + Q + 3) + (K + P + Q + 3) + (P + rows.length + 1) < 100000000) :
    ∃ q fr, f_above [.lst t (rows.map rowE), fr2 lv] = .ok q fr ∧ ∃ p, q = fr2 p ∧ Lo p ∧ val p = sumR (gapR lv) rows / (tot rows : Rat) ∧ Pz (1 + rows.length * (K + P + Q + 3) + (P + rows.length + 1)) p := by
  obtain ⟨ts, tl⟩ := tot_sz h
  have tp := tot_pos h ne
  have zz := forL_all (tg := gU 2 (gC (gN 3) (gC (gN 4) (gE)))) (b := abB) (fun r => AV.v (rowE r) false) (fun done _ S st => ∃ f g x3 x4, S = [some (.v (.lst t (rows.map rowE)) false), some (.v (fr2 lv) false), some (.v (fr2 f) g), x3, x4] ∧ st = [] ∧ Pz (1 + done.length * (K + P + Q + 3)) f ∧ val f = sumR (gapR lv) done) rows [some (.v (.lst t (rows.map rowE)) false), some (.v (fr2 lv) false), some (.v (fr2 (0, 1)) false), none, none] [] ⟨(0, 1), false, none, none, rfl, rfl, ⟨by decide, (.lit : Sz 1 0).mono (by omega), (.lit : Sz 1 1).mono (by omega)⟩, val01⟩ ?_
  · obtain ⟨S', st', e, f, g, x3, x4, rfl, rfl, f1, f2⟩ := zz
    refine wp_ok (N := 5) (d := d_above) ?_
    unfold d_above
    walk_at "a_slots"
    walk_at "a_wp"
    refine wp_forE (t := t) (enc := rowE) (ys := rows) rfl e ?_
    have z : Pz (P + rows.length + 1) (1, tot rows) := ⟨tp, (.lit : Sz 1 1).mono (by omega), ts.mono (by omega)⟩
    walk_at "a_wp"
    refine ⟨_, _, _, rfl, _, rfl, lo_low (by have := f1.mul z; omega), ?_, f1.times z⟩
    rw [show val (timesF f (1, tot rows)) = val f * val (1, tot rows) from val_times f1.pos tp, f2, val_inv]
    have : (tot rows : Rat) ≠ 0 := ne_cast (by omega)
    grind
  · rintro done r todo S st hd ⟨f, g, x3, x4, rfl, rfl, f1, f2⟩
    refine ⟨_, rfl, ?_⟩
    obtain ⟨h1, h2, h3, h4⟩ := h.ok r (by rw [← hd]; simp)
    obtain ⟨n1, n2, n3, n4⟩ := len_step hd (K + P + Q + 3)
    have w := pz_one h3
    have d := h2.minus hl
    have m := d.times w
    have lt := lt_val hl.pos h2.pos
    walk_at "a_nrm"
    walk_at "a_wif"
    · intro c
      simp only [decide_eq_true_eq] at c
      walk_at "a_wp"
      refine ⟨_, _, _, _, rfl, rfl, (f1.plus m).mono (by omega), ?_⟩
      rw [show val (plusF f (timesF (minusF r.1 lv) (r.2, 1))) = val f + val (timesF (minusF r.1 lv) (r.2, 1)) from val_plus f1.pos m.pos, show val (timesF (minusF r.1 lv) (r.2, 1)) = val (minusF r.1 lv) * val (r.2, 1) from val_times d.pos w.pos, show val (minusF r.1 lv) = val r.1 - val lv from val_minus h2.pos hl.pos, f2, sumR_snoc, val_one]
      unfold gapR
      rw [if_pos (lt.mp c)]
    · intro c
      simp only [decide_eq_false_iff_not] at c
      walk_at "a_wp"
      refine ⟨_, _, _, _, rfl, rfl, f1.mono (by omega), ?_⟩
      rw [f2, sumR_snoc]
      unfold gapR
      rw [if_neg fun z => c (lt.mpr z)]
      grind
/-- the weights of some rows -/
def totF (c : TRow → Bool) (rows : List TRow) : Int := tot (rows.filter c)
theorem Rows.filter {K P : Nat} {rows : List TRow} (h : Rows K P rows) (c : TRow → Bool) : Rows K P (rows.filter c) := ⟨fun r hr => h.ok r (List.mem_filter.mp hr).1⟩
theorem tot_app (a b : List TRow) : tot (a ++ b) = tot a + tot b := by
  induction a with
  | nil => simp [tot]
  | cons r rs ih => simp only [List.cons_append, tot, ih]; omega
theorem totF_le {K P : Nat} {rows : List TRow} (h : Rows K P rows) (c : TRow → Bool) : 0 ≤ totF c rows ∧ totF c rows ≤ tot rows := by
  induction rows with
  | nil => simp [totF, tot]
  | cons r rs ih =>
    have := ih h.tail
    have := (h.ok r List.mem_cons_self).2.2.2
    unfold totF at *
    rw [List.filter_cons]
    split <;> simp only [tot] <;> omega
theorem filt_sum {t fr : Bool} {rows : List TRow} {c : TRow → Bool} {st : Store} : fSum [.v (.lst t ((rows.filter c).map fun r => PV.int r.2)) fr] st = .ok (.v (.int (totF c rows)) false) st := by
  rw [show ((rows.filter c).map fun r => PV.int r.2) = ((rows.filter c).map (·.2)).map PV.int by rw [List.map_map]; rfl, fSum_ok, sum_tot]
  rfl
theorem share_from_ok {t : Bool} {K P Q : Nat} {rows : List TRow} {lv : Sh} (h : Rows K P rows) (hl : Pz Q lv) (ne : rows ≠ []) (l : rows.length ≤ 1000000) (l2 : K + Q < 100000000) :
    ∃ q fr, f_share_from [.lst t (rows.map rowE), fr2 lv] = .ok q fr ∧ q = fr2 (lowF (totF (fun r => !decide (r.1.1 * lv.2 < lv.1 * r.1.2)) rows) (tot rows)) := by
  have tp := tot_pos h ne
  refine wp_ok (N := 4) (d := d_share_from) ?_
  unfold d_share_from
  walk_at "a_slots"
  refine wp_ret (st1 := []) (dCall_ok (xs := [.v (.int (totF (fun r => !decide (r.1.1 * lv.2 < lv.1 * r.1.2)) rows)) false, .v (.int (tot rows)) false]) (dCons_ok (dB1_ok (dCons_ok (compE_filt (t := t) (fr := false) (enc := rowE) (g := fun r => PV.int r.2) (c := fun r => !decide (r.1.1 * lv.2 < lv.1 * r.1.2)) rows rfl l fun r hr => ?_) rfl) filt_sum) (dCons_ok ?_ rfl)) rfl (callP_v rfl (share_ok (by omega)))) ⟨_, _, _, rfl, rfl⟩
  · obtain ⟨_, h2, _⟩ := h.ok r hr
    refine ⟨_, rfl, ?_, fun _ => rfl⟩
    simp only [wipeS]
    walk_at "a_nrm"
    walk_at "a_tst"
  · walk_at "a_ev"
theorem share_upto_ok {t : Bool} {K P Q : Nat} {rows : List TRow} {lv : Sh} (h : Rows K P rows) (hl : Pz Q lv) (ne : rows ≠ []) (l : rows.length ≤ 1000000) (l2 : K + Q < 100000000) :
    ∃ q fr, f_share_upto [.lst t (rows.map rowE), fr2 lv] = .ok q fr ∧ q = fr2 (lowF (totF (fun r => !decide (lv.1 * r.1.2 < r.1.1 * lv.2)) rows) (tot rows)) := by
  have tp := tot_pos h ne
  refine wp_ok (N := 4) (d := d_share_upto) ?_
  unfold d_share_upto
  walk_at "a_slots"
  refine wp_ret (st1 := []) (dCall_ok (xs := [.v (.int (totF (fun r => !decide (lv.1 * r.1.2 < r.1.1 * lv.2)) rows)) false, .v (.int (tot rows)) false]) (dCons_ok (dB1_ok (dCons_ok (compE_filt (t := t) (fr := false) (enc := rowE) (g := fun r => PV.int r.2) (c := fun r => !decide (lv.1 * r.1.2 < r.1.1 * lv.2)) rows rfl l fun r hr => ?_) rfl) filt_sum) (dCons_ok ?_ rfl)) rfl (callP_v rfl (share_ok (by omega)))) ⟨_, _, _, rfl, rfl⟩
  · obtain ⟨_, h2, _⟩ := h.ok r hr
    refine ⟨_, rfl, ?_, fun _ => rfl⟩
    simp only [wipeS]
    walk_at "a_nrm"
    walk_at "a_tst"
  · walk_at "a_ev"
/-! capped -/
def lesF (p q : Sh) : Sh := bif decide (q.1 * p.2 < p.1 * q.2) then q else p
theorem lesser_ok {n m : Nat} {p q : Sh} (h : Pz n p) (k : Pz m q) (l : n + m < 100000000) : f_lesser [fr2 p, fr2 q] = .ok (fr2 (lesF p q)) false := by
  have e : ∃ x fr, f_lesser [fr2 p, fr2 q] = .ok x fr ∧ x = fr2 (lesF p q) ∧ fr = false := by
    refine wp_ok (N := 2) (d := d_lesser) ?_
    unfold d_lesser lesF
    walk_at "a_slots"
    walk_at "a_wif"
    · intro c
      walk_at "a_wp"
      exact ⟨_, _, _, rfl, by rw [c]; rfl, rfl⟩
    · intro c
      walk_at "a_wp"
      exact ⟨_, _, _, rfl, by rw [c]; rfl, rfl⟩
  obtain ⟨x, fr, e, rfl, rfl⟩ := e
  exact e
end Tb
local macro_rules | `(tactic| walk_at "a_hint") => `(tactic| ((with_reducible apply Tb.lesser_ok); walk_at "a_pzt"; walk_at "a_pzt"; omega))
namespace Tb
open PySem PySem.Spec PyProof.Rows L2 A LF DT
open Law (fr2 lowF)
theorem les_cases (p q : Sh) : lesF p q = p ∨ lesF p q = q := by
  unfold lesF
  cases decide (q.1 * p.2 < p.1 * q.2) <;> simp
theorem capped_ok {t : Bool} {K P : Nat} {rows : List TRow} {lv : Sh} (h : Rows K P rows) (hl : Pz K lv) (lo : Lo lv) (l : rows.length ≤ 900000) (l1 : K + K < 100000000) (l3 : 1 + rows.length * K + K < 100000000) (l4 : 2 + rows.length * (P + 1 + 1) + rows.length * (1 + rows.length * (P + 1 + 1)) + (1 + rows.length * (P + 1 + 1)) < 100000000) :
    ∃ q fr, f_capped [.lst t (rows.map rowE), fr2 lv] = .ok q fr ∧ ∃ rows', q = .lst true (rows'.map rowE) ∧ fr = true ∧ IsTab rows' (meas (rows.map fun r => (lesF r.1 lv, (r.2 : Rat)))) ∧ rows'.length ≤ rows.length := by
  have pe : ∀ e ∈ rows.map (fun r => (lesF r.1 lv, ((r.2, 1) : Sh))), Lo e.1 ∧ Pz K e.1 ∧ Pz (P + 1) e.2 ∧ 0 ≤ e.2.1 := fun e he => by
    obtain ⟨r, hr, rfl⟩ := List.mem_map.mp he
    obtain ⟨h1, h2, h3, h4⟩ := h.ok r hr
    refine ⟨?_, ?_, pz_one h3, by show 0 ≤ r.2; omega⟩
    · rcases les_cases r.1 lv with z | z <;> rw [z] <;> assumption
    · rcases les_cases r.1 lv with z | z <;> rw [z] <;> assumption
  obtain ⟨_, f1, e1, rows', rfl, rfl, T, ln, -⟩ := told_ok (t := true) pe (by rw [List.length_map]; exact l) (by rw [List.length_map]; exact l3) (by rw [List.length_map]; exact l4)
  have vv : vals (rows.map fun r => (lesF r.1 lv, ((r.2, 1) : Sh))) = rows.map fun r => (lesF r.1 lv, (r.2 : Rat)) := by
    unfold vals
    rw [List.map_map]
    refine List.map_congr_left fun r _ => ?_
    show (lesF r.1 lv, val (r.2, 1)) = _
    rw [val_one]
  rw [vv] at T
  rw [List.map_map] at e1
  have e2 : callP f_told_form [.v (.lst true (rows.map fun r => partE (lesF r.1 lv, ((r.2, 1) : Sh)))) true] [] = .ok (.v (.lst true (rows'.map rowE)) true) [] := callP_v rfl e1
  refine wp_ok (N := 4) (d := d_capped) ?_
  unfold d_capped
  walk_at "a_slots"
  have c : dCompE false ([2, 3]) (dVar 0) (gU 2 (gC (gN 2) (gC (gN 3) (gE)))) (dYes) (dTup (dCons (dCall 2 f_lesser (dCons (dVar 2) (dCons (dVar 1) (dNil)))) (dCons (dCall 1 f_whole (dCons (dVar 3) (dNil))) (dNil)))) [some (.v (.lst t (rows.map rowE)) false), some (.v (fr2 lv) false), none, none] [] = .ok (.v (.lst true (rows.map fun r => partE (lesF r.1 lv, ((r.2, 1) : Sh)))) true) [] := by
    refine compE_enc (t := t) (fr := false) (enc := rowE) (g := fun r => partE (lesF r.1 lv, ((r.2, 1) : Sh))) rows rfl (by omega) fun r hr => ?_
    obtain ⟨h1, h2, h3, h4⟩ := h.ok r hr
    refine ⟨_, rfl, ?_⟩
    show _ = Res.ok (AV.v (.tup [fr2 (lesF r.1 lv), fr2 (r.2, 1)]) false) _
    simp only [wipeS]
    walk_at "a_nrm"
    walk_at "a_ev"
  exact wp_ret (dCall_ok (dCons_ok c dNil_ok) rfl e2) ⟨_, _, _, rfl, rows', rfl, rfl, T, by rw [List.length_map] at ln; exact ln⟩
/-! comprehensions over rows, walked -/
theorem Rows.sz {K P : Nat} {rows : List TRow} {r : TRow} (hr : r ∈ rows) (h : Rows K P rows) : Sz P r.2 := (h.ok r hr).2.2.1
theorem Rows.pz {K P : Nat} {rows : List TRow} {r : TRow} (hr : r ∈ rows) (h : Rows K P rows) : Pz K r.1 := (h.ok r hr).2.1
theorem fSum_rows {t fr : Bool} {rows : List TRow} {st : Store} : fSum [.v (.lst t (rows.map fun r => PV.int r.2)) fr] st = .ok (.v (.int (tot rows)) false) st := by
  rw [show (rows.map fun r => PV.int r.2) = (rows.map (·.2)).map PV.int by rw [List.map_map]; rfl, fSum_ok, sum_tot]
theorem fAdd_l {t u a b : Bool} {xs ys : List PV} {st : Store} (l : xs.length ≤ 100000) (m : ys.length ≤ 100000) : fAdd false (.v (.lst t xs) a) (.v (.lst u ys) b) st = .ok (.v (.lst true (xs ++ ys)) true) st := fAdd_lists (by omega)
end Tb
local macro_rules | `(tactic| walk_at "a_szt") => `(tactic| ((with_reducible apply Tb.Rows.sz); assumption; assumption))
namespace Tb
open PySem PySem.Spec PyProof.Rows L2 A LF DT
open Law (fr2 lowF)
end Tb
local macro_rules | `(tactic| walk_at "a_pzt") => `(tactic| ((with_reducible apply Tb.Rows.pz); assumption; assumption))
namespace Tb
open PySem PySem.Spec PyProof.Rows L2 A LF DT
open Law (fr2 lowF)
end Tb
local macro_rules | `(tactic| walk_at "a_hint") => `(tactic| first
  | exact Tb.fSum_rows
  | ((with_reducible apply Tb.fAdd_l); (first | omega | (simp only [List.length_map]; omega) | (rw [List.length_map]; refine Nat.le_trans (List.length_filter_le _ _) ?_; omega)); (first | omega | (simp only [List.length_map]; omega) | (rw [List.length_map]; refine Nat.le_trans (List.length_filter_le _ _) ?_; omega)))
  | ((with_reducible apply A.compE_enc); walk_at "a_ev"; (first | assumption | omega | (simp only [List.length_map]; omega) | (refine Nat.le_trans (List.length_filter_le _ _) ?_; omega)); (intro _ _; refine ⟨_, rfl, ?_⟩; simp only [A.wipeS]; walk_at "a_nrm"; walk_at "a_ev"))
  | ((with_reducible apply A.compE_filt); walk_at "a_ev"; (first | assumption | omega | (simp only [List.length_map]; omega) | (refine Nat.le_trans (List.length_filter_le _ _) ?_; omega)); (intro _ _; refine ⟨_, rfl, ?_, fun _ => ?_⟩; (simp only [A.wipeS]; walk_at "a_nrm"; walk_at "a_tst"); (simp only [A.wipeS]; walk_at "a_nrm"; walk_at "a_ev"))))
namespace Tb
open PySem PySem.Spec PyProof.Rows L2 A LF DT
open Law (fr2 lowF)
end Tb

/-! mixed tables, the greatest of tables -/
namespace Tb
open PySem PySem.Spec PyProof.Rows L2 A LF DT
open Law (fr2 lowF)
abbrev WTab := Int × List TRow
def wtE (w : WTab) : PV := .tup [.int w.1, .lst true (w.2.map rowE)]
theorem Enc.wt : Enc wtE (fun w => .tuple [.int w.1, .list (w.2.map fun r => .tuple [.tuple [.int r.1.1, .int r.1.2], .int r.2])]) 4 := Enc.pair (Enc.int.mono (by omega)) (Enc.lst Enc.row true)
theorem fEq_wts {t u neg f g : Bool} {a b : List WTab} {st : Store} : fEq neg (.v (.lst t (a.map wtE)) f) (.v (.lst u (b.map wtE)) g) st = .ok (.v (.bl (bif neg then !decide (a = b) else decide (a = b))) false) st := fEq_enc (Enc.lst Enc.wt t) (Enc.lst Enc.wt u) (by decide)
abbrev tbE (w : List TRow) : PV := .lst true (w.map rowE)
theorem fEq_tbs {t u neg f g : Bool} {a b : List (List TRow)} {st : Store} : fEq neg (.v (.lst t (a.map tbE)) f) (.v (.lst u (b.map tbE)) g) st = .ok (.v (.bl (bif neg then !decide (a = b) else decide (a = b))) false) st := fEq_enc (Enc.lst (Enc.lst Enc.row true) t) (Enc.lst (Enc.lst Enc.row true) u) (by decide)
end Tb
local macro_rules | `(tactic| walk_at "a_hint") => `(tactic| first | exact Tb.fEq_wts | exact Tb.fEq_tbs)
namespace Tb
open PySem PySem.Spec PyProof.Rows L2 A LF DT
open Law (fr2 lowF)
theorem rowE_nb (r : TRow) : noBor (rowE r) = true := rfl
theorem rows_nb {rows : List TRow} : noBor (.lst true (rows.map rowE)) = true := noBor_lst rowE_nb
end Tb
local macro_rules | `(tactic| walk_at "a_hint") => `(tactic| exact Tb.rows_nb)
namespace Tb
open PySem PySem.Spec PyProof.Rows L2 A LF DT
open Law (fr2 lowF)
/-- the parts of a mix -/
def mixP (w : WTab) : List (Sh × Sh) := w.2.map fun r => (r.1, lowF (w.1 * r.2) (tot w.2))
def mixM (rows : List WTab) : List (Sh × Rat) := rows.flatMap fun w => w.2.map fun r => (r.1, (w.1 : Rat) * (r.2 : Rat) / (tot w.2 : Rat))
structure WRows (K P L : Nat) (rows : List WTab) : Prop where
  ok : ∀ w ∈ rows, 1 ≤ w.1 ∧ Sz P w.1 ∧ Rows K P w.2 ∧ w.2 ≠ [] ∧ w.2.length ≤ L
theorem flat_len {α β : Type} (f : α → List β) (L : Nat) : ∀ xs : List α, (∀ x ∈ xs, (f x).length ≤ L) → (xs.flatMap f).length ≤ xs.length * L
  | [], _ => by simp
  | x :: xs, h => by
    have := flat_len f L xs fun y hy => h y (List.mem_cons_of_mem _ hy)
    have := h x List.mem_cons_self
    rw [List.flatMap_cons, List.length_append, List.length_cons, Nat.add_mul]
    omega
theorem len_le {α : Type} {done todo ys : List α} (h : done ++ todo = ys) : done.length ≤ ys.length := by rw [← h]; simp
theorem mul_pos' {a b : Int} (h : 1 ≤ a) (k : 1 ≤ b) : 1 ≤ a * b := by
  have := Int.mul_le_mul h k (by omega) (by omega)
  omega
theorem div_nn {t b : Int} (h : 0 ≤ t) (k : 0 < b) : 0 ≤ (lowF t b).1 := by
  have g0 : 0 < Int.gcd t b := Int.gcd_pos_of_ne_zero_right _ (by omega)
  unfold Law.lowF
  rw [decide_eq_false (by omega : ¬ b < 0)]
  show 0 ≤ t.fdiv _
  exact Int.fdiv_nonneg h (by omega)
theorem mixed_ok {u : Bool} {K P L : Nat} {rows : List WTab} (h : WRows K P L rows) (n : rows.length * L ≤ 200) (p : P ≤ 900) (k : K ≤ 400000) (l : L ≤ 90) :
    ∃ out, f_mixed [.lst u (rows.map wtE)] = .ok (.lst true (out.map rowE)) true ∧ IsTab out (meas (mixM rows)) ∧ out.length ≤ (rows.flatMap mixP).length ∧ ∀ r ∈ out, Pz K r.1 ∧ r.1 ∈ (rows.flatMap mixP).map (·.1) := by
  have len : (rows.flatMap mixP).length ≤ 200 := Nat.le_trans (flat_len mixP L rows fun w hw => by unfold mixP; rw [List.length_map]; exact (h.ok w hw).2.2.2.2) n
  have pe : ∀ e ∈ rows.flatMap mixP, Lo e.1 ∧ Pz K e.1 ∧ Pz (P + P + 90) e.2 ∧ 0 ≤ e.2.1 := fun e he => by
    obtain ⟨w, hw, he⟩ := List.mem_flatMap.mp he
    obtain ⟨r, hr, rfl⟩ := List.mem_map.mp he
    obtain ⟨w1, w2, R, ne, wl⟩ := h.ok w hw
    obtain ⟨a, b, c, d⟩ := R.ok r hr
    have tz := (tot_sz R).1
    have tp := tot_pos R ne
    exact ⟨a, b, Pz.low ((w2.mul c).mono (by omega)) (tz.mono (by omega)) (by omega), div_nn (by have := mul_pos' w1 d; omega) tp⟩
  have m1 := Nat.mul_le_mul_right (P + P + 90 + 1) len
  have m2 := Nat.mul_le_mul len (show 1 + (rows.flatMap mixP).length * (P + P + 90 + 1) ≤ 1 + 200 * 1891 by omega)
  have m3 := Nat.mul_le_mul_right K len
  obtain ⟨_, _, e1, out, rfl, rfl, T, ol, oz⟩ := told_ok (t := false) (K := K) (P := P + P + 90) (parts := rows.flatMap mixP) pe (by omega) (by omega) (by omega)
  have vv : vals (rows.flatMap mixP) = mixM rows := by
    unfold vals mixM
    rw [List.map_flatMap]
    have : ∀ w ∈ rows, (mixP w).map (fun e => (e.1, val e.2)) = w.2.map fun r => (r.1, (w.1 : Rat) * (r.2 : Rat) / (tot w.2 : Rat)) := fun w hw => by
      obtain ⟨w1, w2, R, ne, wl⟩ := h.ok w hw
      have tp := tot_pos R ne
      unfold mixP
      rw [List.map_map]
      refine List.map_congr_left fun r hr => ?_
      show (r.1, val (lowF (w.1 * r.2) (tot w.2))) = _
      rw [val_low (by omega)]
      push_cast
      rfl
    rw [List.flatMap_def, List.flatMap_def, List.map_congr_left this]
  rw [vv] at T
  refine ⟨out, ?_, T, ol, fun r hr => ⟨(oz r hr).1, (oz r hr).2.1⟩⟩
  obtain ⟨q, fr, e, rfl, rfl⟩ := wp_ok (N := 7) (d := d_mixed) (ps := [.lst u (rows.map wtE)]) (P := fun q fr => q = .lst true (out.map rowE) ∧ fr = true) (by
    unfold d_mixed
    walk_at "a_slots"
    walk_at "a_wp"
    refine wp_forI wtE rows (fun done _ S st => ∃ x2 x3 x4 x5 x6, S = [some (.v (.lst u (rows.map wtE)) false), some (.ref 0), x2, x3, x4, x5, x6] ∧ st = [.lst ((done.flatMap mixP).map fun e => .v (partE e) false)]) rfl ⟨_, _, _, _, _, rfl, rfl⟩ ?_ ?_
    · rintro done w todo S st hd ⟨x2, x3, x4, x5, x6, rfl, rfl⟩
      refine ⟨_, rfl, ?_⟩
      obtain ⟨w1, w2, R, ne, wl⟩ := h.ok w (by rw [← hd]; simp)
      have tz := (tot_sz R).1
      have tp := tot_pos R ne
      have dl : (done.flatMap mixP).length ≤ 200 := by
        rw [← hd, List.flatMap_append, List.length_append] at len
        omega
      walk_at "a_nrm"
      walk_at "a_wp"
      refine wp_forI' rowE w.2 (fun dn _ S st => ∃ x5 x6, S = [some (.v (.lst u (rows.map wtE)) false), some (.ref 0), some (.v (.int w.1) false), some (.v (.lst true (w.2.map rowE)) false), some (.v (.int (tot w.2)) false), x5, x6] ∧ st = [.lst ((done.flatMap mixP ++ dn.map fun r => (r.1, lowF (w.1 * r.2) (tot w.2))).map fun e => .v (partE e) false)]) rfl ⟨_, _, rfl, by rw [List.map_nil, List.append_nil]⟩ ?_ ?_
      · rintro dn r td S st hd2 ⟨x5, x6, rfl, rfl⟩
        refine ⟨_, rfl, ?_⟩
        have hr : r ∈ w.2 := by rw [← hd2]; simp
        obtain ⟨a, b, c, d⟩ := R.ok r hr
        have ll : ((done.flatMap mixP ++ dn.map fun r => (r.1, lowF (w.1 * r.2) (tot w.2))).map fun e => AV.v (partE e) false).length < 1000000 := by
          have := len_le hd2
          simp only [List.length_map, List.length_append]
          omega
        walk_at "a_nrm"
        walk_at "a_wp"
        exact ⟨_, _, rfl, by simp [partE]⟩
      · rintro S st ⟨x5, x6, rfl, rfl⟩
        exact ⟨_, _, _, _, _, rfl, by rw [List.flatMap_append]; simp [mixP]⟩
    · rintro S st ⟨x2, x3, x4, x5, x6, rfl, rfl⟩
      walk_at "a_wp"
      exact ⟨_, _, _, rfl, rfl, rfl⟩)
  exact e
/-- the weights are small where the shares have a common bottom -/
theorem IsTab.small {rows : List TRow} {m : Sh → Rat} (h : IsTab rows m) {R : Int} (h0 : 0 < R) (hR : ∀ r ∈ rows, ∃ i : Int, (i : Rat) = (R : Rat) * m r.1) : ∀ r ∈ rows, (r.2 : Rat) ≤ (R : Rat) * m r.1 := by
  obtain ⟨c, c0, e⟩ := h.at_
  have R0 : (0 : Rat) < (R : Rat) := by exact_mod_cast h0
  obtain ⟨q, hq⟩ : ∃ q : Rat, q = c / (R : Rat) := ⟨_, rfl⟩
  have q0 : 0 < q := by rw [hq, Rat.div_def]; exact Rat.mul_pos c0 (Rat.inv_pos.mpr R0)
  have qd0 : (q.den : Rat) ≠ 0 := by exact_mod_cast q.den_nz
  have qe : q * (q.den : Rat) = (q.num : Rat) := by
    have e := Rat.mkRat_self q
    rw [Rat.mkRat_eq_div] at e
    generalize (q.num : Rat) = a at *
    generalize (q.den : Rat) = b at *
    rw [← e]
    grind
  have qn : 0 < q.num := by
    have d0 : (0 : Rat) < (q.den : Rat) := by exact_mod_cast q.den_pos
    have : (0 : Rat) < (q.num : Rat) := by rw [← qe]; exact Rat.mul_pos q0 d0
    exact_mod_cast this
  have qd : (q.den : Int) ≠ 0 := by have := q.den_nz; omega
  have key : ∀ r ∈ rows, ∀ i : Int, (i : Rat) = (R : Rat) * m r.1 → r.2 * (q.den : Int) = q.num * i := fun r hr i hi => by
    have e1 := e r hr
    have : ((r.2 * (q.den : Int) : Int) : Rat) = ((q.num * i : Int) : Rat) := by
      push_cast
      rw [← qe, hi, e1, hq]
      grind
    exact_mod_cast this
  intro r hr
  obtain ⟨i, hi⟩ := hR r hr
  have one : q.num = 1 := by
    refine (h.one q.num qn fun r hr => ?_).resolve_left (by intro z; rw [z] at hr; cases hr)
    obtain ⟨i, hi⟩ := hR r hr
    have k := key r hr i hi
    refine cop' (a := (q.den : Int)) ?_ ⟨i, k⟩
    have := q.reduced
    unfold Nat.Coprime at this
    rw [Int.gcd_comm]
    exact this
  have k := key r hr i hi
  rw [one, Int.one_mul] at k
  have rp := h.pos r hr
  have : r.2 ≤ i := by
    rw [← k]
    have d1 : (1 : Int) ≤ (q.den : Int) := by have := q.den_pos; omega
    have := Int.mul_le_mul_of_nonneg_left d1 (show 0 ≤ r.2 by omega)
    omega
  rw [← hi]
  exact_mod_cast this
end Tb

/-! the greatest of tables -/
namespace Tb
open PySem PySem.Spec PyProof.Rows L2 A LF DT
open Law (fr2 lowF)
/-- the choices: of each table a row -/
def chL : List TRow → List (List TRow) → List TRow
  | acc, [] => acc
  | acc, t :: ts => chL (acc.flatMap fun a => t.map fun b => (bif lessF a.1 b.1 then b.1 else a.1, a.2 * b.2)) ts
/-- what is k or less -/
def cum (es : List TRow) (k : Sh) : Rat := sumR (fun e => if val e.1 ≤ val k then (e.2 : Rat) else 0) es
def cdf : List (List TRow) → Sh → Rat
  | [], _ => 1
  | t :: ts, k => cum t k / (tot t : Rat) * cdf ts k
def prodT : List (List TRow) → Rat
  | [] => 1
  | t :: ts => (tot t : Rat) * prodT ts
theorem sumR_app {α : Type} (f : α → Rat) (b : List α) : ∀ a : List α, sumR f (a ++ b) = sumR f a + sumR f b
  | [] => by simp only [List.nil_append, sumR]; grind
  | x :: xs => by simp only [List.cons_append, sumR, sumR_app f b xs]; grind
theorem sumR_scale {α : Type} (f : α → Rat) (c : Rat) : ∀ a : List α, sumR (fun x => c * f x) a = c * sumR f a
  | [] => by simp only [sumR]; grind
  | x :: xs => by simp only [sumR, sumR_scale f c xs]; grind
theorem sumR_zero {α : Type} : ∀ a : List α, sumR (fun _ => (0 : Rat)) a = 0
  | [] => rfl
  | x :: xs => by simp only [sumR, sumR_zero xs]; grind
theorem max_le {a b k : Sh} (ha : 0 < a.2) (hb : 0 < b.2) : (val (bif lessF a b then b else a) ≤ val k) ↔ (val a ≤ val k ∧ val b ≤ val k) := by
  rw [lessF_val ha hb]
  by_cases q : val a < val b
  · rw [decide_eq_true q]
    show val b ≤ val k ↔ _
    constructor
    · intro h; exact ⟨by grind, h⟩
    · intro h; exact h.2
  · rw [decide_eq_false q]
    show val a ≤ val k ↔ _
    constructor
    · intro h; exact ⟨h, by grind⟩
    · intro h; exact h.1
theorem cum_one {K P : Nat} {t : List TRow} (ht : Rows K P t) (k : Sh) {a : TRow} (ha : 0 < a.1.2) : cum (t.map fun b => (bif lessF a.1 b.1 then b.1 else a.1, a.2 * b.2)) k = (if val a.1 ≤ val k then (a.2 : Rat) else 0) * cum t k := by
  unfold cum
  rw [sumR_map, ← sumR_scale]
  refine sumR_congr fun b hb => ?_
  have m := max_le (k := k) ha (ht.ok b hb).2.1.pos
  by_cases q1 : val a.1 ≤ val k
  · by_cases q2 : val b.1 ≤ val k
    · rw [if_pos (m.mpr ⟨q1, q2⟩), if_pos q1, if_pos q2]; push_cast; rfl
    · rw [if_neg fun z => q2 (m.mp z).2, if_pos q1, if_neg q2]; grind
  · rw [if_neg fun z => q1 (m.mp z).1, if_neg q1]; grind
theorem cum_step {K P : Nat} {t : List TRow} (ht : Rows K P t) (k : Sh) : ∀ {acc : List TRow}, (∀ a ∈ acc, 0 < a.1.2) → cum (acc.flatMap fun a => t.map fun b => (bif lessF a.1 b.1 then b.1 else a.1, a.2 * b.2)) k = cum acc k * cum t k
  | [], _ => by simp only [List.flatMap_nil, cum, sumR]; grind
  | a :: acc, h => by
    rw [List.flatMap_cons]
    have ih := cum_step ht k (acc := acc) fun x hx => h x (List.mem_cons_of_mem _ hx)
    have e1 := cum_one ht k (a := a) (h a List.mem_cons_self)
    have e2 : cum (a :: acc) k = (if val a.1 ≤ val k then (a.2 : Rat) else 0) + cum acc k := rfl
    rw [show ∀ x y : List TRow, cum (x ++ y) k = cum x k + cum y k from fun x y => sumR_app _ _ _, ih, e1, e2]
    grind
theorem ch_pos {K P : Nat} : ∀ {ts : List (List TRow)} {acc : List TRow}, (∀ t ∈ ts, Rows K P t) → (∀ a ∈ acc, Lo a.1 ∧ Pz K a.1 ∧ 1 ≤ a.2) → ∀ e ∈ chL acc ts, Lo e.1 ∧ Pz K e.1 ∧ 1 ≤ e.2
  | [], acc, _, h, e, he => h e he
  | t :: ts, acc, ht, h, e, he => by
    refine ch_pos (fun t ht' => ht t (List.mem_cons_of_mem _ ht')) (fun x hx => ?_) e he
    obtain ⟨a, ha, hx⟩ := List.mem_flatMap.mp hx
    obtain ⟨b, hb, rfl⟩ := List.mem_map.mp hx
    obtain ⟨a1, a2, a3⟩ := h a ha
    obtain ⟨b1, b2, b3, b4⟩ := (ht t List.mem_cons_self).ok b hb
    refine ⟨?_, ?_, mul_pos' a3 b4⟩
    · cases lessF a.1 b.1 <;> assumption
    · cases lessF a.1 b.1 <;> assumption
theorem cum_ch {K P : Nat} (k : Sh) : ∀ {ts : List (List TRow)} {acc : List TRow}, (∀ t ∈ ts, Rows K P t ∧ t ≠ []) → (∀ a ∈ acc, Lo a.1 ∧ Pz K a.1 ∧ 1 ≤ a.2) → cum (chL acc ts) k = cum acc k * (cdf ts k * prodT ts)
  | [], acc, _, _ => by simp only [chL, cdf, prodT]; grind
  | t :: ts, acc, ht, h => by
    obtain ⟨R, ne⟩ := ht t List.mem_cons_self
    have ih := cum_ch (K := K) (P := P) k (ts := ts) (acc := acc.flatMap fun (a : TRow) => t.map fun (b : TRow) => (bif lessF a.1 b.1 then b.1 else a.1, a.2 * b.2)) (fun t ht' => ht t (List.mem_cons_of_mem _ ht')) (fun e he => ch_pos (K := K) (P := P) (ts := [t]) (acc := acc) (fun t' h' => by rw [List.mem_singleton.mp h']; exact R) h e he)
    have tp : (tot t : Rat) ≠ 0 := ne_cast (by have := tot_pos R ne; omega)
    show cum (chL _ ts) k = _
    rw [ih, cum_step R k fun a ha => (h a ha).2.1.pos]
    simp only [cdf, prodT]
    grind
theorem prodT_pos {K P : Nat} : ∀ {ts : List (List TRow)}, (∀ t ∈ ts, Rows K P t ∧ t ≠ []) → 0 < prodT ts
  | [], _ => by simp only [prodT]; grind
  | t :: ts, h => by
    obtain ⟨R, ne⟩ := h t List.mem_cons_self
    have tp : (0 : Rat) < (tot t : Rat) := by exact_mod_cast tot_pos R ne
    exact Rat.mul_pos tp (prodT_pos fun t ht => h t (List.mem_cons_of_mem _ ht))
/-- what has none of these keys -/
def rest (es : List TRow) (ks : List Sh) : Rat := sumR (fun e => if e.1 ∈ ks then 0 else (e.2 : Rat)) es
theorem meas_sum (k : Sh) : ∀ es : List TRow, meas (ivals es) k = sumR (fun e => if e.1 = k then (e.2 : Rat) else 0) es
  | [] => rfl
  | e :: es => by
    show (if e.1 = k then (e.2 : Rat) else 0) + meas (ivals es) k = _
    rw [meas_sum k es]
    rfl
theorem sumR_add {α : Type} (f g : α → Rat) : ∀ a : List α, sumR (fun x => f x + g x) a = sumR f a + sumR g a
  | [] => by simp only [sumR]; grind
  | x :: xs => by simp only [sumR, sumR_add f g xs]; grind
theorem rest_step {es : List TRow} {k : Sh} {ks : List Sh} (h : k ∉ ks) : rest es ks = rest es (k :: ks) + meas (ivals es) k := by
  rw [meas_sum]
  unfold rest
  rw [← sumR_add]
  refine sumR_congr fun e _ => ?_
  by_cases q : e.1 = k
  · rw [q, if_neg h, if_pos (List.mem_cons_self), if_pos rfl]; grind
  · by_cases q2 : e.1 ∈ ks
    · rw [if_pos q2, if_pos (List.mem_cons_of_mem _ q2), if_neg q]; grind
    · have : e.1 ∉ k :: ks := by intro z; rcases List.mem_cons.mp z with z | z <;> contradiction
      rw [if_neg q2, if_neg this, if_neg q]; grind
theorem cum_rest {es : List TRow} {k : Sh} {ks : List Sh} (up : (k :: ks).Pairwise fun p q => val p < val q) (h : ∀ e ∈ es, e.1 ∈ k :: ks ∨ ∀ x ∈ k :: ks, val e.1 < val x) : cum es k = rest es ks := by
  unfold cum rest
  refine sumR_congr fun e he => ?_
  rw [List.pairwise_cons] at up
  rcases h e he with z | z
  · rcases List.mem_cons.mp z with w | w
    · have : e.1 ∉ ks := fun v => by
        have := up.1 e.1 v
        rw [w] at this
        grind
      rw [if_neg this, w, if_pos (by grind)]
    · have := up.1 e.1 w
      rw [if_pos w, if_neg (by grind)]
  · have a := z k List.mem_cons_self
    have : e.1 ∉ ks := fun v => by
      have := z e.1 (List.mem_cons_of_mem _ v)
      grind
    rw [if_neg this, if_pos (by grind)]
theorem rest_all {es : List TRow} {ks : List Sh} (h : ∀ e ∈ es, e.1 ∈ ks) : rest es ks = 0 := by
  unfold rest
  rw [sumR_congr (g := fun _ => (0 : Rat)) fun e he => by rw [if_pos (h e he)], sumR_zero]
/-! the program's way -/
def upto (k : Sh) (t : List TRow) : Int := totF (fun r => !decide (k.1 * r.1.2 < r.1.1 * k.2)) t
def hereF (ts : List (List TRow)) (k : Sh) : Sh := ts.foldl (fun h t => timesF h (lowF (upto k t) (tot t))) (1, 1)
theorem upto_cum {K P : Nat} {t : List TRow} (h : Rows K P t) {k : Sh} (hk : 0 < k.2) : (upto k t : Rat) = cum t k := by
  unfold upto totF cum
  rw [tot_rat, sumR_filter]
  refine sumR_congr fun r hr => ?_
  have l := lt_val (p := k) (q := r.1) hk (h.ok r hr).2.1.pos
  by_cases q : val k < val r.1
  · rw [decide_eq_true (l.mpr q), if_neg (by simp), if_neg (by grind)]
  · rw [decide_eq_false fun z => q (l.mp z), if_pos (by simp), if_pos (by grind)]
theorem hereF_snoc (ts : List (List TRow)) (t : List TRow) (k : Sh) : hereF (ts ++ [t]) k = timesF (hereF ts k) (lowF (upto k t) (tot t)) := by
  unfold hereF
  rw [List.foldl_append]
  rfl
theorem cdf_snoc (t : List TRow) (k : Sh) : ∀ ts : List (List TRow), cdf (ts ++ [t]) k = cdf ts k * (cum t k / (tot t : Rat))
  | [] => by simp only [List.nil_append, cdf]; grind
  | s :: ts => by simp only [List.cons_append, cdf, cdf_snoc t k ts]; grind
structure TRows (K P L : Nat) (ts : List (List TRow)) : Prop where
  ok : ∀ t ∈ ts, Rows K P t ∧ t ≠ [] ∧ t.length ≤ L
theorem TRows.up {K P L : Nat} {ts : List (List TRow)} (h : TRows K P L ts) {t : List TRow} (ht : t ∈ ts) (k : Sh) : 0 ≤ upto k t ∧ Sz (P + L) (upto k t) ∧ Sz (P + L) (tot t) ∧ 0 < tot t := by
  obtain ⟨R, ne, l⟩ := h.ok t ht
  obtain ⟨a, b⟩ := totF_le R fun r => !decide (k.1 * r.1.2 < r.1.1 * k.2)
  have c := (tot_sz R).1.mono (show P + t.length ≤ P + L by omega)
  have tp := tot_pos R ne
  refine ⟨a, c.of_le ?_, c, tp⟩
  unfold upto
  omega
theorem rev_ind {α : Type} {P : List α → Prop} (h0 : P []) (hs : ∀ a x, P a → P (a ++ [x])) (l : List α) : P l := by
  have : ∀ l : List α, P l.reverse := fun l => by
    induction l with
    | nil => exact h0
    | cons x l ih => rw [List.reverse_cons]; exact hs _ _ ih
  have := this l.reverse
  rwa [List.reverse_reverse] at this
theorem here_ok {K P L : Nat} {ts : List (List TRow)} (h : TRows K P L ts) {k : Sh} (hk : 0 < k.2) : ∀ (a b : List (List TRow)), a ++ b = ts → Pz (1 + a.length * (P + L)) (hereF a k) ∧ val (hereF a k) = cdf a k := by
  intro a
  refine rev_ind (P := fun a => ∀ b, a ++ b = ts → Pz (1 + a.length * (P + L)) (hereF a k) ∧ val (hereF a k) = cdf a k) ?_ ?_ a
  · exact fun b _ => ⟨⟨by show (0 : Int) < 1; decide, (.lit : Sz 1 1).mono (by omega), (.lit : Sz 1 1).mono (by omega)⟩, by
      show val (1, 1) = 1
      rw [val_one]; push_cast; rfl⟩
  · intro a t ih b e
    obtain ⟨i1, i2⟩ := ih (t :: b) (by rw [← e, List.append_assoc]; rfl)
    have ht : t ∈ ts := by rw [← e]; simp
    obtain ⟨u0, u1, u2, u3⟩ := h.up ht k
    have lz := (low_pz u1 u2 u3).1
    rw [hereF_snoc, cdf_snoc]
    refine ⟨(i1.times lz).mono ?_, ?_⟩
    · rw [List.length_append, List.length_singleton, Nat.add_mul]; omega
    · rw [show val (timesF (hereF a k) (lowF (upto k t) (tot t))) = val (hereF a k) * val (lowF (upto k t) (tot t)) from val_times i1.pos lz.pos, i2, val_low (by omega), upto_cum (h.ok t ht).1 hk]
/-- what the program finds -/
def fndP (ts : List (List TRow)) : Sh → List TRow → List (Sh × Sh)
  | _, [] => []
  | a, r :: rs => (r.1, minusF (hereF ts r.1) a) :: fndP ts (hereF ts r.1) rs
def lastF (ts : List (List TRow)) : Sh → List TRow → Sh
  | a, [] => a
  | _, r :: rs => lastF ts (hereF ts r.1) rs
theorem fnd_snoc (ts : List (List TRow)) (r : TRow) : ∀ (a : Sh) (rs : List TRow), fndP ts a (rs ++ [r]) = fndP ts a rs ++ [(r.1, minusF (hereF ts r.1) (lastF ts a rs))] ∧ lastF ts a (rs ++ [r]) = hereF ts r.1
  | a, [] => ⟨rfl, rfl⟩
  | a, s :: rs => by
    obtain ⟨h1, h2⟩ := fnd_snoc ts r (hereF ts s.1) rs
    exact ⟨by simp only [List.cons_append, fndP, lastF, h1], by simp only [List.cons_append, lastF, h2]⟩
theorem val_nn' {p : Sh} (h : 0 < p.2) (k : 0 ≤ val p) : 0 ≤ p.1 := by
  by_cases q : 0 ≤ p.1
  · exact q
  · have := (lt_val (p := p) (q := (0, 1)) h (by decide)).mp (by show p.1 * 1 < 0 * p.2; omega)
    rw [val01] at this
    grind
/-- the shares that are found are the choices' -/
theorem fnd_ok {K P L : Nat} {t0 : List TRow} {ts : List (List TRow)} (h : TRows K P L (t0 :: ts)) : ∀ (rs : List TRow) (a : Sh), (∀ r ∈ rs, Lo r.1 ∧ Pz K r.1) → (rs.map (·.1)).Pairwise (fun p q => val p < val q) → Pz (1 + (ts.length + 1) * (P + L)) a →
    (∀ e ∈ chL t0 ts, e.1 ∈ rs.map (·.1) ∨ ∀ x ∈ rs.map (·.1), val e.1 < val x) → val a * prodT (t0 :: ts) = rest (chL t0 ts) (rs.map (·.1)) →
    vals (fndP (t0 :: ts) a rs) = rs.map (fun r => (r.1, 1 / prodT (t0 :: ts) * meas (ivals (chL t0 ts)) r.1)) ∧ ∀ e ∈ fndP (t0 :: ts) a rs, Lo e.1 ∧ Pz K e.1 ∧ Pz (2 * (1 + (ts.length + 1) * (P + L)) + 1) e.2 ∧ 0 ≤ e.2.1
  | [], a, _, _, _, _, _ => ⟨rfl, fun e he => absurd he List.not_mem_nil⟩
  | r :: rs, a, hr, up, az, sub, hv => by
    have pp := prodT_pos fun t ht => ⟨(h.ok t ht).1, (h.ok t ht).2.1⟩
    have up2 := (List.pairwise_cons.mp up).2
    have hk := (hr r List.mem_cons_self).2.pos
    obtain ⟨z1, z2⟩ := here_ok h hk (t0 :: ts) [] (by simp)
    have base : ∀ x ∈ t0, Lo x.1 ∧ Pz K x.1 ∧ 1 ≤ x.2 := fun x hx => by
      obtain ⟨c1, c2, c3, c4⟩ := (h.ok t0 List.mem_cons_self).1.ok x hx
      exact ⟨c1, c2, c4⟩
    have cc := cum_ch (K := K) (P := P) r.1 (ts := ts) (acc := t0) (fun t ht => ⟨(h.ok t (List.mem_cons_of_mem _ ht)).1, (h.ok t (List.mem_cons_of_mem _ ht)).2.1⟩) base
    have t0p : (tot t0 : Rat) ≠ 0 := ne_cast (by have := tot_pos (h.ok t0 List.mem_cons_self).1 (h.ok t0 List.mem_cons_self).2.1; omega)
    have hv2 : val (hereF (t0 :: ts) r.1) * prodT (t0 :: ts) = rest (chL t0 ts) (rs.map (·.1)) := by
      rw [← cum_rest up sub, cc, z2]
      simp only [cdf, prodT]
      grind
    have nk : r.1 ∉ rs.map (·.1) := fun z => by
      have := (List.pairwise_cons.mp up).1 r.1 z
      grind
    have st := rest_step (es := chL t0 ts) nk
    have vm : val (minusF (hereF (t0 :: ts) r.1) a) = val (hereF (t0 :: ts) r.1) - val a := val_minus z1.pos az.pos
    have e : val (minusF (hereF (t0 :: ts) r.1) a) = 1 / prodT (t0 :: ts) * meas (ivals (chL t0 ts)) r.1 := by
      rw [vm]
      rw [List.map_cons] at hv
      have p0 : prodT (t0 :: ts) ≠ 0 := by grind
      generalize prodT (t0 :: ts) = C at *
      generalize val (hereF (t0 :: ts) r.1) = x at *
      generalize val a = y at *
      have : (x - y) * C = meas (ivals (chL t0 ts)) r.1 := by grind
      rw [← this]
      grind
    have nn : 0 ≤ meas (ivals (chL t0 ts)) r.1 := meas_nn _ fun x hx => by
      obtain ⟨y, hy, rfl⟩ := List.mem_map.mp hx
      have := (ch_pos (K := K) (P := P) (fun t ht => (h.ok t (List.mem_cons_of_mem _ ht)).1) base y hy).2.2
      have : (1 : Rat) ≤ (y.2 : Rat) := by exact_mod_cast this
      show (0 : Rat) ≤ (y.2 : Rat)
      grind
    obtain ⟨i1, i2⟩ := fnd_ok h rs (hereF (t0 :: ts) r.1) (fun x hx => hr x (List.mem_cons_of_mem _ hx)) up2 z1 (fun e he => by
      rcases sub e he with z | z
      · rcases List.mem_cons.mp z with w | w
        · exact .inr fun x hx => by rw [w]; exact (List.pairwise_cons.mp up).1 x hx
        · exact .inl w
      · exact .inr fun x hx => z x (List.mem_cons_of_mem _ hx)) hv2
    refine ⟨?_, fun x hx => ?_⟩
    · show (r.1, val (minusF (hereF (t0 :: ts) r.1) a)) :: vals (fndP (t0 :: ts) (hereF (t0 :: ts) r.1) rs) = _
      rw [i1, e]
      rfl
    · rcases List.mem_cons.mp hx with w | w
      · rw [w]
        have mz := z1.minus az
        obtain ⟨l1, l2⟩ := hr r List.mem_cons_self
        refine ⟨l1, l2, mz.mono (by rw [List.length_cons]; omega), val_nn' mz.pos ?_⟩
        show 0 ≤ val (minusF (hereF (t0 :: ts) r.1) a)
        rw [e]
        exact Rat.mul_nonneg (by rw [Rat.div_def, Rat.one_mul]; exact Rat.le_of_lt (Rat.inv_pos.mpr pp)) nn
      · exact i2 x w
theorem meas_keys {m : Sh → Rat} (k : Sh) : ∀ {rs : List TRow}, (rs.map (·.1)).Nodup → meas (rs.map fun r => (r.1, m r.1)) k = if k ∈ rs.map (·.1) then m k else 0
  | [], _ => rfl
  | r :: rs, nd => by
    rw [List.map_cons, List.nodup_cons] at nd
    have ih := meas_keys (m := m) k (rs := rs) nd.2
    show (if r.1 = k then m r.1 else 0) + meas (rs.map fun r => (r.1, m r.1)) k = _
    rw [ih]
    by_cases q : r.1 = k
    · rw [if_pos q, ← q, if_neg nd.1, if_pos (by simp)]; grind
    · rw [if_neg q]
      by_cases q2 : k ∈ rs.map (·.1)
      · rw [if_pos q2, if_pos (by rw [List.map_cons]; exact List.mem_cons_of_mem _ q2)]; grind
      · rw [if_neg q2, if_neg (by rw [List.map_cons]; intro z; rcases List.mem_cons.mp z with w | w; exact q w.symm; exact q2 w)]; grind
theorem ch_keys : ∀ {ts : List (List TRow)} {acc : List TRow}, ∀ e ∈ chL acc ts, e.1 ∈ acc.map (·.1) ∨ ∃ t ∈ ts, e.1 ∈ t.map (·.1)
  | [], acc, e, he => .inl (List.mem_map.mpr ⟨e, he, rfl⟩)
  | t :: ts, acc, e, he => by
    rcases ch_keys (ts := ts) e he with z | ⟨t', h1, h2⟩
    · obtain ⟨x, hx, ex⟩ := List.mem_map.mp z
      obtain ⟨a, ha, hx⟩ := List.mem_flatMap.mp hx
      obtain ⟨b, hb, rfl⟩ := List.mem_map.mp hx
      rw [← ex]
      cases q : lessF a.1 b.1 with
      | true => exact .inr ⟨t, List.mem_cons_self, by simp only [q, cond_true]; exact List.mem_map.mpr ⟨b, hb, rfl⟩⟩
      | false => exact .inl (by simp only [q, cond_false]; exact List.mem_map.mpr ⟨a, ha, rfl⟩)
    · exact .inr ⟨t', List.mem_cons_of_mem _ h1, h2⟩
theorem fExtend_enc {α : Type} {enc : α → PV} {st : Store} {n : Nat} {done ys : List α} {t fr : Bool} (h : lstAt st n = some (done.map fun y => .v (enc y) false)) (l : done.length + ys.length ≤ 1000000) : fExtend (.ref n) [.v (.lst t (ys.map enc)) fr] st = .ok (.v .non false) (st.set n (.lst ((done ++ ys).map fun y => .v (enc y) false))) := by
  rw [fExtend_ok h (zs := ys.map fun y => .v (enc y) false) (by show some ((ys.map enc).map (AV.v · false)) = _; rw [List.map_map]; rfl) (by simp only [List.length_map]; exact l), List.map_append]
abbrev gpP (t : List TRow) : List (Sh × Sh) := t.map fun r => (r.1, ((1, 1) : Sh))
theorem greatest_ok {u : Bool} {K P L : Nat} {t0 : List TRow} {ts : List (List TRow)} (h : TRows K P L (t0 :: ts)) (b1 : (ts.length + 1) * L ≤ 80) (b2 : (ts.length + 1) * (P + L) ≤ 3999) (b3 : K ≤ 1000000) :
    ∃ out, f_greatest [.lst u ((t0 :: ts).map tbE)] = .ok (.lst true (out.map rowE)) true ∧ IsTab out (meas (ivals (chL t0 ts))) ∧ out.length ≤ 80 ∧ ∀ r ∈ out, Pz K r.1 := by
  have pp := prodT_pos fun t ht => ⟨(h.ok t ht).1, (h.ok t ht).2.1⟩
  have base : ∀ x ∈ t0, Lo x.1 ∧ Pz K x.1 ∧ 1 ≤ x.2 := fun x hx => by
    obtain ⟨c1, c2, c3, c4⟩ := (h.ok t0 List.mem_cons_self).1.ok x hx
    exact ⟨c1, c2, c4⟩
  have len : ((t0 :: ts).flatMap gpP).length ≤ 80 := Nat.le_trans (flat_len gpP L (t0 :: ts) fun t ht => by rw [List.length_map]; exact (h.ok t ht).2.2) b1
  have one : Pz 1 (1, 1) := ⟨by decide, .lit, .lit⟩
  have pe : ∀ e ∈ (t0 :: ts).flatMap gpP, Lo e.1 ∧ Pz K e.1 ∧ Pz 1 e.2 ∧ 0 ≤ e.2.1 := fun e he => by
    obtain ⟨t, ht, he⟩ := List.mem_flatMap.mp he
    obtain ⟨r, hr, rfl⟩ := List.mem_map.mp he
    obtain ⟨a, b, c, d⟩ := (h.ok t ht).1.ok r hr
    exact ⟨a, b, one, by show (0 : Int) ≤ 1; decide⟩
  have m3 := Nat.mul_le_mul_right K len
  obtain ⟨_, _, e1, rows, rfl, rfl, T, rl, rz⟩ := told_ok (t := false) (K := K) (P := 1) pe (by omega) (by omega) (by
    have := Nat.mul_le_mul len (show 1 + ((t0 :: ts).flatMap gpP).length * (1 + 1) ≤ 161 by omega)
    omega)
  have keyIn : ∀ t ∈ t0 :: ts, ∀ k ∈ t.map (·.1), k ∈ rows.map (·.1) := fun t ht k hk => by
    refine T.key k ?_
    obtain ⟨r, hr, rfl⟩ := List.mem_map.mp hk
    have g := meas_ge (l := vals ((t0 :: ts).flatMap gpP)) (k := r.1) (e := (r.1, val (1, 1))) (fun x hx => by
      obtain ⟨y, hy, rfl⟩ := List.mem_map.mp hx
      obtain ⟨_, _, y3, y4⟩ := pe y hy
      exact val_nn y3.pos y4) (List.mem_map.mpr ⟨(r.1, (1, 1)), List.mem_flatMap.mpr ⟨t, ht, List.mem_map.mpr ⟨r, hr, rfl⟩⟩, rfl⟩) rfl
    intro z
    rw [z] at g
    have g : val (1, 1) ≤ 0 := g
    rw [val_one] at g
    push_cast at g
    grind
  have sub : ∀ e ∈ chL t0 ts, e.1 ∈ rows.map (·.1) := fun e he => by
    rcases ch_keys e he with z | ⟨t, h1, h2⟩
    · exact keyIn t0 List.mem_cons_self _ z
    · exact keyIn t (List.mem_cons_of_mem _ h1) _ h2
  have rk : ∀ r ∈ rows, Lo r.1 ∧ Pz K r.1 := fun r hr => ⟨T.lo r hr, (rz r hr).1⟩
  have z01 : Pz (1 + (ts.length + 1) * (P + L)) (0, 1) := ⟨by decide, (.lit : Sz 1 0).mono (by omega), (.lit : Sz 1 1).mono (by omega)⟩
  obtain ⟨v1, v2⟩ := fnd_ok h rows (0, 1) rk T.up z01 (fun e he => .inl (sub e he)) (by rw [rest_all sub, val01, Rat.zero_mul])
  have fl : ∀ (rs : List TRow) (a : Sh), (fndP (t0 :: ts) a rs).length = rs.length := fun rs => by
    induction rs with
    | nil => exact fun _ => rfl
    | cons r rs ih => exact fun a => congrArg (· + 1) (ih _)
  have fl1 := fl rows (0, 1)
  have fK := Nat.mul_le_mul_right K (show (fndP (t0 :: ts) (0, 1) rows).length ≤ 80 by omega)
  have f1 := Nat.mul_le_mul (show (fndP (t0 :: ts) (0, 1) rows).length ≤ 80 by omega) (show 2 * (1 + (ts.length + 1) * (P + L)) + 1 + 1 ≤ 8002 by omega)
  have f2 := Nat.mul_le_mul (show (fndP (t0 :: ts) (0, 1) rows).length ≤ 80 by omega) (show 1 + (fndP (t0 :: ts) (0, 1) rows).length * (2 * (1 + (ts.length + 1) * (P + L)) + 1 + 1) ≤ 640161 by omega)
  obtain ⟨_, _, e2, out, rfl, rfl, T2, ol, oz⟩ := told_ok (t := false) (K := K) (P := 2 * (1 + (ts.length + 1) * (P + L)) + 1) v2 (by omega) (by omega) (by omega)
  have nd : (rows.map (·.1)).Nodup := T.up.imp fun {a b} q z => by rw [z] at q; grind
  have T3 : IsTab out (meas (ivals (chL t0 ts))) := by
    refine T2.scale pp fun k => ?_
    rw [v1, meas_mul (1 / prodT (t0 :: ts)) (fun r : TRow => r.1) (fun r => meas (ivals (chL t0 ts)) r.1) k rows, meas_keys k nd]
    split
    · generalize meas (ivals (chL t0 ts)) k = x at *
      grind
    · rename_i q
      have : meas (ivals (chL t0 ts)) k = 0 := by
        by_cases w : meas (ivals (chL t0 ts)) k = 0
        · exact w
        · obtain ⟨y, hy, ey⟩ := List.mem_map.mp (meas_mem w)
          obtain ⟨x, hx, rfl⟩ := List.mem_map.mp hy
          exact absurd (by rw [← ey]; exact sub x hx) q
      rw [this]
      grind
  refine ⟨out, ?_, T3, by omega, fun r hr => (oz r hr).1⟩
  obtain ⟨q, fr, e, rfl, rfl⟩ := wp_ok (N := 8) (d := d_greatest) (ps := [.lst u ((t0 :: ts).map tbE)]) (P := fun q fr => q = .lst true (out.map rowE) ∧ fr = true) (by
    generalize htt : t0 :: ts = tt at *
    unfold d_greatest
    walk_at "a_slots"
    walk_at "a_wp"
    refine wp_forI tbE tt (fun done _ S st => ∃ x2, S = [some (.v (.lst u (tt.map tbE)) false), some (.ref 0), x2, none, none, none, none, none] ∧ st = [.lst ((done.flatMap gpP).map fun e => .v (partE e) false)]) rfl ⟨_, rfl, rfl⟩ ?_ ?_
    · rintro done t todo S st hd ⟨x2, rfl, rfl⟩
      refine ⟨_, rfl, ?_⟩
      have ht : t ∈ tt := by rw [← hd]; simp
      obtain ⟨R, ne, tl⟩ := h.ok t ht
      have dl := len
      rw [← hd, List.flatMap_append, List.length_append, List.flatMap_cons, List.length_append] at dl
      have gl : (gpP t).length = t.length := List.length_map _
      have cp : dCompE false ([5, 6]) (dVar 2) (gU 2 (gC (gN 5) (gC (gN 6) (gE)))) (dYes) (dTup (dCons (dVar 5) (dCons (dTup (dCons (dC (.int (1))) (dCons (dC (.int (1))) (dNil)))) (dNil)))) [some (.v (.lst u (tt.map tbE)) false), some (.ref 0), some (.v (tbE t) false), none, none, none, none, none] [.lst ((done.flatMap gpP).map fun e => .v (partE e) false)] = .ok (.v (.lst true ((gpP t).map partE)) true) [.lst ((done.flatMap gpP).map fun e => .v (partE e) false)] := by
        rw [List.map_map]
        refine compE_enc (t := true) (fr := false) (enc := rowE) (g := partE ∘ fun r => (r.1, ((1, 1) : Sh))) t rfl (by omega) fun r hr => ⟨_, rfl, ?_⟩
        show _ = Res.ok (AV.v (.tup [fr2 r.1, fr2 (1, 1)]) false) _
        simp only [wipeS]
        walk_at "a_nrm"
        walk_at "a_ev"
      have ex := dExpr_ok (dMeth_at (f := fExtend) (de := dVar 1) (x := .ref 0) (st1 := [.lst ((done.flatMap gpP).map fun e => .v (partE e) false)]) rfl rfl (dCons_ok cp dNil_ok) (fExtend_enc (enc := partE) (n := 0) (done := done.flatMap gpP) (ys := gpP t) rfl (by omega)))
      walk_at "a_nrm"
      unfold Wp
      rw [ex]
      exact ⟨_, rfl, by rw [List.flatMap_append]; simp⟩
    · rintro S st ⟨x2, rfl, rfl⟩
      walk_at "a_wp"
      refine wp_forI rowE rows (fun done _ S st => ∃ x2 g4 x5 x6 x7, S = [some (.v (.lst u (tt.map tbE)) false), some (.ref 0), x2, some (.ref 1), some (.v (fr2 (lastF tt (0, 1) done)) g4), x5, x6, x7] ∧ st = [.lst ((tt.flatMap gpP).map fun e => .v (partE e) false), .lst ((fndP tt (0, 1) done).map fun e => .v (partE e) false)] ∧ Pz (1 + tt.length * (P + L)) (lastF tt (0, 1) done)) (dArg_ok (dCons_ok rfl dNil_ok) rfl (cR1 rfl e1 rows_nb)) ⟨_, _, _, _, _, rfl, rfl, by rw [← htt]; exact z01⟩ ?_ ?_
      · rintro done r todo S st hd ⟨x2, g4, x5, x6, x7, rfl, rfl, lz⟩
        refine ⟨_, rfl, ?_⟩
        have hr : r ∈ rows := by rw [← hd]; simp
        obtain ⟨lo, kz⟩ := rk r hr
        have il := len_le hd
        have tl : tt.length = ts.length + 1 := by rw [← htt]; rfl
        walk_at "a_nrm"
        walk_at "a_wp"
        refine wp_forI tbE tt (fun dn _ S st => ∃ x2 g7, S = [some (.v (.lst u (tt.map tbE)) false), some (.ref 0), x2, some (.ref 1), some (.v (fr2 (lastF tt (0, 1) done)) g4), some (.v (fr2 r.1) false), some (.v (.int r.2) false), some (.v (fr2 (hereF dn r.1)) g7)] ∧ st = [.lst ((tt.flatMap gpP).map fun e => .v (partE e) false), .lst ((fndP tt (0, 1) done).map fun e => .v (partE e) false)]) rfl ⟨_, _, rfl, rfl⟩ ?_ ?_
        · rintro dn t td S st hd2 ⟨x2, g7, rfl, rfl⟩
          refine ⟨_, rfl, ?_⟩
          have ht : t ∈ tt := by rw [← hd2]; simp
          obtain ⟨R, ne, tl2⟩ := h.ok t ht
          obtain ⟨z1, z2⟩ := here_ok h kz.pos dn (t :: td) hd2
          obtain ⟨u0, u1, u2, u3⟩ := h.up ht r.1
          have uz := (low_pz u1 u2 u3).1
          have dl := len_le hd2
          have m1 := Nat.mul_le_mul_right (P + L) dl
          have pl : 1 * (P + L) ≤ (ts.length + 1) * (P + L) := Nat.mul_le_mul_right _ (by omega)
          rw [tl] at m1
          have tl80 : t.length ≤ 80 := by
            have : 1 * L ≤ (ts.length + 1) * L := Nat.mul_le_mul_right L (by omega)
            omega
          obtain ⟨_, gs, es, rfl⟩ := share_upto_ok (t := true) R kz ne (by omega) (by
            have : 1 * (P + L) ≤ (ts.length + 1) * (P + L) := Nat.mul_le_mul_right _ (by omega)
            omega)
          have es : f_share_upto [.lst true (t.map rowE), fr2 r.1] = .ok (fr2 (lowF (upto r.1 t) (tot t))) gs := es
          walk_at "a_nrm"
          walk_at "a_wp"
          exact ⟨_, _, by rw [hereF_snoc], rfl⟩
        · rintro S st ⟨x2, g7, rfl, rfl⟩
          obtain ⟨z1, z2⟩ := here_ok h kz.pos tt [] (by simp)
          rw [tl] at z1 lz
          have al : lstAt [AO.lst ((tt.flatMap gpP).map fun e => .v (partE e) false), .lst ((fndP tt (0, 1) done).map fun e => .v (partE e) false)] 1 = some ((fndP tt (0, 1) done).map fun e => .v (partE e) false) := rfl
          have fll : ((fndP tt (0, 1) done).map fun e => AV.v (partE e) false).length < 1000000 := by
            rw [List.length_map, fl]
            omega
          obtain ⟨s1, s2⟩ := fnd_snoc tt r (0, 1) done
          walk_at "a_wp"
          refine ⟨_, _, _, _, _, by rw [s2], ?_, by rw [s2, tl]; exact z1⟩
          rw [s1]
          simp [partE]
      · rintro S st ⟨x2, g4, x5, x6, x7, rfl, rfl, lz⟩
        walk_at "a_wp"
        exact ⟨_, _, _, rfl, rfl, rfl⟩)
  exact e
end Tb

/-! level_for -/
namespace Tb
open PySem PySem.Spec PyProof.Rows L2 A LF DT
open Law (fr2 lowF)
structure LTab (K P : Nat) (rows : List TRow) : Prop where
  ne : rows ≠ []
  up : (rows.map (·.1)).Pairwise fun p q => val p < val q
  R : Rows K P rows
def fullV (rows : List TRow) : Rat := sumR (fun r => val r.1 * (r.2 : Rat)) rows
/-- the rows above a level -/
structure LvJ (K P M : Nat) (rows : List TRow) (C : Rat) (l : Sh) (pre suf : List TRow) : Prop where
  e : rows = pre ++ suf
  ne : suf ≠ []
  eq : val l * (tot suf : Rat) = fullV suf - C
  up : ∀ r ∈ suf, val l < val r.1
  lo : Lo l
  pz : Pz (M + (K + P + 3) * suf.length + (P + rows.length + 1)) l
structure LvI (K P M : Nat) (rows : List TRow) (C : Rat) (W : Int) (f l : Sh) (pre suf : List TRow) : Prop where
  e : rows = pre ++ suf
  w : W = tot suf
  vf : val f = fullV suf - C
  zf : Pz (M + (K + P + 3) * suf.length) f
  pl : 0 < l.2
  st : suf ≠ [] → LvJ K P M rows C l pre suf ∧ ∀ q r, pre = q ++ [r] → val l < val r.1
theorem Rows.sub {K P : Nat} {rows suf pre : List TRow} (h : Rows K P rows) (e : rows = pre ++ suf) : Rows K P suf := ⟨fun r hr => h.ok r (by rw [e]; exact List.mem_append_right _ hr)⟩
theorem lv_step {K P M : Nat} {rows : List TRow} {C : Rat} {W : Int} {f l : Sh} {pre suf : List TRow} {r : TRow} (h : LTab K P rows) (hC : 0 < C) (I : LvI K P M rows C W f l (pre ++ [r]) suf) :
    0 < W + r.2 ∧ Sz P r.2 ∧ Pz K r.1 ∧ Sz (P + rows.length) (W + r.2) ∧ W + r.2 = tot (r :: suf) ∧ val (plusF f (timesF r.1 (r.2, 1))) = fullV (r :: suf) - C ∧ Pz (M + (K + P + 3) * (r :: suf).length) (plusF f (timesF r.1 (r.2, 1))) ∧ LvJ K P M rows C (timesF (plusF f (timesF r.1 (r.2, 1))) (1, W + r.2)) pre (r :: suf) := by
  have e : rows = pre ++ (r :: suf) := by rw [I.e]; simp
  have mem : r ∈ rows := by rw [e]; simp
  obtain ⟨r0, r1, r2, r3⟩ := h.R.ok r mem
  have Rs := h.R.sub e
  have Rs0 := Rs.tail
  have t := (tot_sz Rs0).2
  have ts := (tot_sz Rs).1
  have sl : (r :: suf).length ≤ rows.length := by rw [e]; simp
  have tt : W + r.2 = tot (r :: suf) := by rw [I.w]; simp only [tot]; omega
  have wpos : 0 < W + r.2 := by rw [I.w]; omega
  have sW : Sz (P + rows.length) (W + r.2) := by rw [tt]; exact ts.mono (by omega)
  have w1 := pz_one r2
  have m2 := r1.times w1
  have zf := I.zf.plus m2
  have zf' : Pz (M + (K + P + 3) * (r :: suf).length) (plusF f (timesF r.1 (r.2, 1))) := zf.mono (by rw [List.length_cons, Nat.mul_add]; omega)
  have vf : val (plusF f (timesF r.1 (r.2, 1))) = fullV (r :: suf) - C := by
    rw [show val (plusF f (timesF r.1 (r.2, 1))) = val f + val (timesF r.1 (r.2, 1)) from val_plus I.zf.pos m2.pos, show val (timesF r.1 (r.2, 1)) = val r.1 * val (r.2, 1) from val_times r1.pos (by decide : (0 : Int) < 1), val_one, I.vf]
    unfold fullV
    simp only [sumR]
    grind
  have zw : Pz (P + rows.length + 1) (1, W + r.2) := ⟨wpos, (.lit : Sz 1 1).mono (by omega), sW.mono (by omega)⟩
  have zl := zf'.times zw
  have wr : (0 : Rat) < ((W + r.2 : Int) : Rat) := by exact_mod_cast wpos
  have vl : val (timesF (plusF f (timesF r.1 (r.2, 1))) (1, W + r.2)) * ((W + r.2 : Int) : Rat) = val (plusF f (timesF r.1 (r.2, 1))) := by
    rw [show val (timesF (plusF f (timesF r.1 (r.2, 1))) (1, W + r.2)) = val (plusF f (timesF r.1 (r.2, 1))) * val (1, W + r.2) from val_times zf'.pos wpos, val_inv]
    have : ((W + r.2 : Int) : Rat) ≠ 0 := by grind
    grind
  have below : val (timesF (plusF f (timesF r.1 (r.2, 1))) (1, W + r.2)) < val r.1 := by
    refine (mul_lt wr).mp ?_
    rw [vl, vf]
    unfold fullV
    simp only [sumR]
    push_cast
    by_cases s0 : suf = []
    · have : W = 0 := by rw [I.w, s0]; rfl
      rw [this, s0]
      simp only [sumR]
      push_cast
      grind
    · obtain ⟨j, k⟩ := I.st s0
      have k := k pre r rfl
      have w0 : (0 : Rat) < (W : Rat) := by
        have : 0 < W := by
          rw [I.w]
          exact tot_pos Rs0 s0
        exact_mod_cast this
      have q := (mul_lt w0).mpr k
      rw [I.w] at q ⊢
      rw [j.eq] at q
      unfold fullV at q
      grind
  refine ⟨wpos, r2, r1, sW, tt, vf, zf', e, by simp, ?_, ?_, lo_low (by have := zf'.mul zw; omega), zl.mono (by omega)⟩
  · rw [← tt, vl, vf]
  · intro x hx
    rcases List.mem_cons.mp hx with z | z
    · rw [z]; exact below
    · have up := h.up
      rw [e, List.map_append, List.map_cons] at up
      have up := (List.pairwise_append.mp up).2.1
      have up := (List.pairwise_cons.mp up).1 x.1 (List.mem_map.mpr ⟨x, z, rfl⟩)
      grind
theorem level1_ok {K P : Nat} {rows : List TRow} {p : Int} {t : Bool} (h : LTab K P rows) (p1 : 1 ≤ p) (p2 : p ≤ 1000000000) (l1 : rows.length ≤ 1000) (l2 : 40 + P + rows.length + (K + P + 3) * (rows.length + 1) + (P + rows.length + 1) + K < 100000000) :
    ∃ l fr, f_level_for [.lst t (rows.map rowE), .int p] = .ok (fr2 l) fr ∧ ∃ pre suf, LvJ K P (40 + P + rows.length) rows ((p : Rat) * (tot rows : Rat)) l pre suf ∧ ∀ r ∈ pre, ¬ val l < val r.1 := by
  have tz := (tot_sz h.R).1
  have tp := tot_pos h.R h.ne
  have z1 : Pz 35 (0 - p, 1) := ⟨(by decide : (0 : Int) < 1), sz_of (b := 1000000000) (by show -1000000000 ≤ 0 - p; omega) (by show 0 - p ≤ 1000000000; omega) (by decide), (.lit : Sz 35 1)⟩
  have z2 := pz_one tz
  have z0 : Pz (40 + P + rows.length) (timesF (0 - p, 1) (tot rows, 1)) := (z1.times z2).mono (by omega)
  have v0 : val (timesF (0 - p, 1) (tot rows, 1)) = 0 - (p : Rat) * (tot rows : Rat) := by
    rw [show val (timesF (0 - p, 1) (tot rows, 1)) = val (0 - p, 1) * val (tot rows, 1) from val_times (by show (0 : Int) < 1; decide) (by show (0 : Int) < 1; decide), val_one, val_one]
    push_cast
    grind
  have hC : (0 : Rat) < (p : Rat) * (tot rows : Rat) := Rat.mul_pos (by exact_mod_cast (show (0 : Int) < p by omega)) (by exact_mod_cast tp)
  obtain ⟨_, fr, e, l, rfl, pre, suf, J, dn⟩ : ∃ q fr, f_level_for [.lst t (rows.map rowE), .int p] = .ok q fr ∧ ∃ l, q = fr2 l ∧ ∃ pre suf, LvJ K P (40 + P + rows.length) rows ((p : Rat) * (tot rows : Rat)) l pre suf ∧ ∀ r ∈ pre, ¬ val l < val r.1 := by
    refine wp_ok (N := 8) (d := d_level_for) ?_
    unfold d_level_for
    walk_at "a_slots"
    walk_at "a_wif"
    · intro c
      simp only [decide_eq_true_eq] at c
      omega
    · intro _
      walk_at "a_wp"
      generalize hC' : (p : Rat) * (tot rows : Rat) = C at *
      have rl : rows.length = (rows.map rowE).length := (List.length_map ..).symm
      refine wp_forDJ (fun (i : Nat) => AV.v (.int (i : Int)) false) (down (rows.map rowE).length)
        (fun _ todo S st => st = [] ∧ ∃ W f l gf gl x5 x6 x7 pre suf, S = [some (.v (.lst t (rows.map rowE)) false), some (.v (.int p) false), some (.v (.int W) false), some (.v (fr2 f) gf), some (.v (fr2 l) gl), x5, x6, x7] ∧ todo = down pre.length ∧ LvI K P (40 + P + rows.length) rows C W f l pre suf)
        (fun S st => st = [] ∧ ∃ W f l gf gl x5 x6 x7 pre suf, S = [some (.v (.lst t (rows.map rowE)) false), some (.v (.int p) false), some (.v (.int W) false), some (.v (fr2 f) gf), some (.v (fr2 l) gl), x5, x6, x7] ∧ LvJ K P (40 + P + rows.length) rows C l pre suf ∧ ∀ r ∈ pre, ¬ val l < val r.1)
        (range3_at (f := false) (g := false) (h := false) (by walk_at "a_evs") (by rw [List.length_map]; omega)) ⟨rfl, 0, _, _, _, _, _, _, _, rows, [], rfl, by rw [← rl], by simp, rfl, by unfold fullV; simp only [sumR]; rw [v0], z0.mono (by omega), z0.pos, fun z => absurd rfl z⟩ ?_ ?_ ?_
      · rintro S st ⟨rfl, W, f, l, gf, gl, x5, x6, x7, pre, suf, rfl, e, I⟩
        have pre0 : pre = [] := by
          cases pre with
          | nil => rfl
          | cons _ _ => simp [down] at e
        subst pre0
        have ne : suf ≠ [] := by
          have := I.e
          rw [List.nil_append] at this
          rw [← this]; exact h.ne
        exact ⟨rfl, W, f, l, gf, gl, x5, x6, x7, [], suf, rfl, (I.st ne).1, fun r hr => absurd hr List.not_mem_nil⟩
      · rintro done y todo S st _ ⟨rfl, W, f, l, gf, gl, x5, x6, x7, pre, suf, rfl, e, I⟩
        rcases List.eq_nil_or_concat pre with z | ⟨pre', r, z⟩
        · subst z; cases e
        subst z
        rw [List.concat_eq_append] at I e
        rw [List.length_append, List.length_singleton, down] at e
        injection e with e1 e2
        subst e1 e2
        refine ⟨_, rfl, ?_⟩
        obtain ⟨wpos, sr, pr, sW, tt, vf, zf, J⟩ := lv_step h hC I
        have ix : L2.atI (rows.map rowE) ((pre'.length : Nat) : Int) = some (rowE r) := atN (by rw [I.e]; simp)
        have zf0 := I.zf
        have sl : suf.length + 1 ≤ rows.length := by
          rw [I.e]; simp
          try omega
        have sl1 := Nat.mul_le_mul_left (K + P + 3) sl
        rw [Nat.mul_add, Nat.mul_one] at sl1
        have l2' := l2
        rw [Nat.mul_add, Nat.mul_one] at l2'
        have pzl : Pz (P + rows.length + 1) (1, W + r.2) := ⟨wpos, (.lit : Sz 1 1).mono (by omega), sW.mono (by omega)⟩
        have wz := pz_one sr
        have zl := J.pz
        rw [List.length_cons, Nat.mul_add, Nat.mul_one] at zf zl
        walk_at "a_nrm"
        walk_at "a_wp"
        by_cases z : pre' = []
        · subst z
          (with_reducible apply A.wp_if')
          · exact dAnd_f rfl
          · intro z; cases z
          · intro _
            walk_at "a_wp"
            exact ⟨rfl, _, _, _, _, _, _, _, _, [], r :: suf, rfl, rfl, J.e, tt, vf, zf.mono (by rw [List.length_cons, Nat.mul_add]; omega), J.lo.pos, fun _ => ⟨J, fun q r' z => by simp at z⟩⟩
        · obtain ⟨q, s, e⟩ : ∃ q s, pre' = q ++ [s] := by
            rcases List.eq_nil_or_concat pre' with y | ⟨q, s, y⟩
            · exact absurd y z
            · exact ⟨q, s, by rw [y, List.concat_eq_append]⟩
          subst e
          have so : Pz K s.1 := (h.R.ok s (by rw [I.e]; simp)).2.1
          have ix2 : L2.atI (rows.map rowE) (((q ++ [s]).length : Nat) - 1 : Int) = some (rowE s) := by
            rw [show (((q ++ [s]).length : Nat) - 1 : Int) = (q.length : Nat) by rw [List.length_append]; simp]
            exact atN (by rw [I.e]; simp)
          have gp : decide (0 < ((q ++ [s]).length : Int)) = true := decide_eq_true (by rw [List.length_append]; simp)
          walk_at "a_wif"
          · intro c
            walk_at "a_wp"
            refine ⟨rfl, _, _, _, _, _, _, _, _, q ++ [s], r :: suf, rfl, J, fun x hx => ?_⟩
            have lt := lt_val zl.pos so.pos
            simp only [gp, Bool.true_and, Bool.not_eq_true', decide_eq_false_iff_not] at c
            have up := h.up
            rw [I.e, List.map_append, List.map_append, List.map_append] at up
            have up := (List.pairwise_append.mp (List.pairwise_append.mp (List.pairwise_append.mp up).1).1).2.2
            have c := fun z => c (lt.mpr z)
            rcases List.mem_append.mp hx with y | y
            · have := up x.1 (List.mem_map.mpr ⟨x, y, rfl⟩) s.1 (by simp)
              grind
            · rw [List.mem_singleton.mp y]; exact c
          · intro c
            walk_at "a_wp"
            have lt := lt_val zl.pos so.pos
            simp only [gp, Bool.true_and, Bool.not_eq_false', decide_eq_true_eq] at c
            exact ⟨rfl, _, _, _, _, _, _, _, _, q ++ [s], r :: suf, rfl, rfl, J.e, tt, vf, zf.mono (by rw [List.length_cons, Nat.mul_add]; omega), J.lo.pos, fun _ => ⟨J, fun q' r' z => by
              have := List.append_inj_right' z rfl
              injection this with this
              rw [← this]; exact lt.mp c⟩⟩
      · rintro S st ⟨rfl, W, f, l, gf, gl, x5, x6, x7, pre, suf, rfl, J, dn⟩
        walk_at "a_wp"
        exact ⟨_, _, _, rfl, l, rfl, pre, suf, J, dn⟩
  exact ⟨l, fr, e, pre, suf, J, dn⟩
/-- the level for a price -/
structure IsLev (rows : List TRow) (p : Int) (l : Sh) : Prop where
  lo : Lo l
  gap : sumR (gapR l) rows = (p : Rat) * (tot rows : Rat)
  top : ∃ pre r, rows = pre ++ [r] ∧ (p = 0 → l = r.1) ∧ val l ≤ val r.1
  cut : (∃ r ∈ rows, l = r.1) ∨ ∃ pre suf, rows = pre ++ suf ∧ suf ≠ [] ∧ val l * (tot suf : Rat) = fullV suf - (p : Rat) * (tot rows : Rat) ∧ (∀ r ∈ suf, val l < val r.1) ∧ ∀ r ∈ pre, ¬ val l < val r.1
theorem last_row {rows : List TRow} (ne : rows ≠ []) (up : (rows.map (·.1)).Pairwise fun p q => val p < val q) : ∃ pre r, rows = pre ++ [r] ∧ ∀ x ∈ pre, val x.1 < val r.1 := by
  rcases List.eq_nil_or_concat rows with y | ⟨pre, r, y⟩
  · exact absurd y ne
  · rw [List.concat_eq_append] at y
    refine ⟨pre, r, y, fun x hx => ?_⟩
    rw [y, List.map_append] at up
    exact (List.pairwise_append.mp up).2.2 x.1 (List.mem_map.mpr ⟨x, hx, rfl⟩) r.1 (by simp)
theorem gap_dn {l : Sh} : ∀ {pre : List TRow}, (∀ r ∈ pre, ¬ val l < val r.1) → sumR (gapR l) pre = 0
  | [], _ => rfl
  | r :: rs, h => by
    simp only [sumR, gap_dn fun x hx => h x (List.mem_cons_of_mem _ hx)]
    unfold gapR
    rw [if_neg (h r List.mem_cons_self)]
    grind
theorem gap_up {l : Sh} : ∀ {suf : List TRow}, (∀ r ∈ suf, val l < val r.1) → sumR (gapR l) suf = fullV suf - (tot suf : Rat) * val l
  | [], _ => by unfold fullV; simp only [sumR, tot]; push_cast; grind
  | r :: rs, h => by
    have ih := gap_up fun x hx => h x (List.mem_cons_of_mem _ hx)
    unfold fullV at *
    simp only [sumR, ih, tot]
    unfold gapR
    rw [if_pos (h r List.mem_cons_self)]
    push_cast
    grind
theorem level_ok {K P : Nat} {rows : List TRow} {p : Int} {t : Bool} (h : LTab K P rows) (p1 : 0 ≤ p) (p2 : p ≤ 1000000000) (l1 : rows.length ≤ 1000) (l2 : 40 + P + rows.length + (K + P + 3) * (rows.length + 1) + (P + rows.length + 1) + K < 100000000) :
    ∃ l fr, f_level_for [.lst t (rows.map rowE), .int p] = .ok (fr2 l) fr ∧ IsLev rows p l := by
  obtain ⟨pre, r, e, k⟩ := last_row h.ne h.up
  have ro := h.R.ok r (by rw [e]; simp)
  by_cases z : p = 0
  · subst z
    have ix : L2.atI ((pre ++ [r]).map rowE) (-1) = some (rowE r) := by
      rw [List.map_append]
      exact atLast
    obtain ⟨q, fr, e0, rfl, rfl⟩ := wp_ok (N := 8) (d := d_level_for) (ps := [.lst t ((pre ++ [r]).map rowE), .int 0]) (P := fun q fr => q = fr2 r.1 ∧ fr = false) (by
      unfold d_level_for
      walk_at "a_slots"
      walk_at "a_wif"
      · intro _
        walk_at "a_wp"
        exact ⟨_, _, _, rfl, rfl, rfl⟩
      · intro c
        simp at c)
    rw [← e] at e0
    refine ⟨r.1, false, e0, ro.1, ?_, ⟨pre, r, e, fun _ => rfl, by grind⟩, .inl ⟨r, by rw [e]; simp, rfl⟩⟩
    rw [gap_dn fun x hx => ?_]
    · push_cast; grind
    rw [e] at hx
    rcases List.mem_append.mp hx with y | y
    · have := k x y
      grind
    · rw [List.mem_singleton.mp y]; grind
  · obtain ⟨l, fr, e1, pre', suf, J, dn⟩ := level1_ok (t := t) h (by omega) p2 l1 l2
    refine ⟨l, fr, e1, J.lo, ?_, ⟨pre, r, e, fun q => absurd q z, ?_⟩, .inr ⟨pre', suf, J.e, J.ne, J.eq, J.up, dn⟩⟩
    · have e2 := J.eq
      rw [J.e, sumR_app, gap_dn dn, gap_up J.up, ← J.e]
      grind
    · rcases List.eq_nil_or_concat suf with y | ⟨s, x, y⟩
      · exact absurd y J.ne
      · rw [List.concat_eq_append] at y
        have q := J.e
        rw [e, y, ← List.append_assoc] at q
        have q := List.append_inj_right' q rfl
        injection q with q
        rw [q]
        have := J.up x (by rw [y]; simp)
        grind
theorem gap_mono {l m : Sh} (h : val m < val l) : ∀ {rows : List TRow}, (∀ r ∈ rows, 1 ≤ r.2) → sumR (gapR l) rows ≤ sumR (gapR m) rows ∧ ((∃ r ∈ rows, val m < val r.1) → sumR (gapR l) rows < sumR (gapR m) rows)
  | [], _ => ⟨by simp only [sumR]; grind, fun ⟨r, hr, _⟩ => absurd hr List.not_mem_nil⟩
  | r :: rs, k => by
    obtain ⟨i1, i2⟩ := gap_mono h (rows := rs) fun x hx => k x (List.mem_cons_of_mem _ hx)
    have r2 : (1 : Rat) ≤ (r.2 : Rat) := by exact_mod_cast k r List.mem_cons_self
    have st : gapR l r ≤ gapR m r ∧ (val m < val r.1 → gapR l r < gapR m r) := by
      unfold gapR
      by_cases a : val l < val r.1
      · have b : val m < val r.1 := by grind
        rw [if_pos a, if_pos b]
        have := (mul_lt (w := (r.2 : Rat)) (x := val r.1 - val l) (y := val r.1 - val m) (by grind)).mpr (by grind)
        exact ⟨by grind, fun _ => this⟩
      · rw [if_neg a]
        by_cases b : val m < val r.1
        · rw [if_pos b]
          have := Rat.mul_pos (a := val r.1 - val m) (b := (r.2 : Rat)) (by grind) (by grind)
          exact ⟨by grind, fun _ => this⟩
        · rw [if_neg b]
          exact ⟨by grind, fun z => absurd z b⟩
    simp only [sumR]
    refine ⟨by grind, ?_⟩
    rintro ⟨x, hx, hv⟩
    rcases List.mem_cons.mp hx with z | z
    · rw [z] at hv
      have := st.2 hv
      grind
    · have := i2 ⟨x, z, hv⟩
      grind
theorem gap_pos {l : Sh} {rows : List TRow} (h : 0 < sumR (gapR l) rows) : ∃ r ∈ rows, val l < val r.1 := by
  by_cases z : ∃ r ∈ rows, val l < val r.1
  · exact z
  · rw [gap_dn fun r hr q => z ⟨r, hr, q⟩] at h
    grind
theorem IsLev.uniq {K P : Nat} {rows : List TRow} {p : Int} {l m : Sh} (T : LTab K P rows) (p0 : 0 ≤ p) (h : IsLev rows p l) (k : IsLev rows p m) : l = m := by
  by_cases z : p = 0
  · obtain ⟨pre, r, e, a, _⟩ := h.top
    obtain ⟨pre', r', e', a', _⟩ := k.top
    rw [a z, a' z]
    rw [e] at e'
    have q := List.append_inj_right' e' rfl
    injection q with q
    rw [q]
  · have pos : (0 : Rat) < (p : Rat) * (tot rows : Rat) := Rat.mul_pos (by exact_mod_cast (show (0 : Int) < p by omega)) (by exact_mod_cast tot_pos T.R T.ne)
    have one := fun r hr => (T.R.ok r hr).2.2.2
    refine lo_eq h.lo k.lo ?_
    have h1 := h.gap
    have k1 := k.gap
    by_cases a : val l < val m
    · have := (gap_mono a one).2 (gap_pos (by rw [h1]; exact pos))
      grind
    · by_cases b : val m < val l
      · have := (gap_mono b one).2 (gap_pos (by rw [k1]; exact pos))
        grind
      · grind
end Tb

/-! stands: trees, their reserves and caps -/
namespace Tb
open PySem PySem.Spec PyProof.Rows L2 A LF DT
open Law (fr2 lowF)
/-- an end; a stage -/
inductive Tr where
  | e (w : Int)
  | s (c : Int) (rows : List (Int × Tr))
instance : Inhabited Tr := ⟨.e 0⟩
abbrev TRs := List (Int × Tr)
mutual
def Tr.ends : Tr → Nat
  | .e _ => 1
  | .s _ rows => endsL rows
def endsL : TRs → Nat
  | [] => 0
  | (_, t) :: r => t.ends + endsL r
end
mutual
def Tr.deep : Tr → Nat
  | .e _ => 0
  | .s _ rows => 1 + deepL rows
def deepL : TRs → Nat
  | [] => 0
  | (_, t) :: r => max t.deep (deepL r)
end
mutual
def Tr.nst : Tr → Nat
  | .e _ => 0
  | .s _ rows => 1 + nstL rows
def nstL : TRs → Nat
  | [] => 0
  | (_, t) :: r => t.nst + nstL r
end
mutual
def Tr.told : Tr → PV
  | .e w => .tup [.str "end", .int w]
  | .s c rows => .tup [.str "stage", .int c, .tup (toldL rows)]
def toldL : TRs → List PV
  | [] => []
  | (w, t) :: r => .tup [.int w, t.told] :: toldL r
end
/-- the table of a measure -/
noncomputable def tabM (m : List (Sh × Rat)) : List TRow := open Classical in if h : ∃ out, IsTab out (meas m) then h.choose else []
theorem tabM_eq {m : List (Sh × Rat)} {out : List TRow} (h : IsTab out (meas m)) : tabM m = out := by
  have e : ∃ out, IsTab out (meas m) := ⟨out, h⟩
  unfold tabM
  rw [dif_pos e]
  exact (e.choose_spec).uniq h (c := 1) (by grind) fun k => by grind
noncomputable def mixT (ws : List WTab) : List TRow := tabM (mixM ws)
noncomputable def levF (tab : List TRow) (c : Int) : Sh := open Classical in if h : ∃ l, IsLev tab c l then h.choose else (0, 1)
theorem levF_eq {K P : Nat} {tab : List TRow} {c : Int} {l : Sh} (T : LTab K P tab) (c0 : 0 ≤ c) (h : IsLev tab c l) : levF tab c = l := by
  have e : ∃ l, IsLev tab c l := ⟨l, h⟩
  unfold levF
  rw [dif_pos e]
  exact IsLev.uniq T c0 e.choose_spec h
def capM (tab : List TRow) (l : Sh) : List (Sh × Rat) := tab.map fun r => (lesF r.1 l, (r.2 : Rat))
noncomputable def capF (tab : List TRow) (l : Sh) : List TRow := tabM (capM tab l)
mutual
noncomputable def Tr.caps : Tr → List TRow
  | .e w => [((w, 1), 1)]
  | .s c rows => capF (mixT (capL rows)) (levF (mixT (capL rows)) c)
noncomputable def capL : TRs → List WTab
  | [] => []
  | (w, t) :: r => (w, t.caps) :: capL r
end
noncomputable def Tr.mix : Tr → List TRow
  | .e w => [((w, 1), 1)]
  | .s _ rows => mixT (capL rows)
noncomputable def Tr.lev : Tr → Sh
  | .e w => (w, 1)
  | .s c rows => levF (mixT (capL rows)) c
mutual
noncomputable def Tr.obj : Tr → PV
  | .e w => .obj true 0 [0] [.int w]
  | .s c rows => .obj true 1 [1, 2, 3, 4] [.int c, .tup (objL rows), fr2 (Tr.lev (.s c rows)), .lst true ((Tr.caps (.s c rows)).map rowE)]
noncomputable def objL : TRs → List PV
  | [] => []
  | (w, t) :: r => .tup [.int w, t.obj] :: objL r
end
theorem endsL_eq : ∀ rows : TRs, endsL rows = (rows.map fun r => r.2.ends).sum
  | [] => rfl
  | (w, t) :: r => by simp only [endsL, List.map_cons, List.sum_cons, endsL_eq r]
theorem toldL_eq : ∀ rows : TRs, toldL rows = rows.map fun r => .tup [.int r.1, r.2.told]
  | [] => rfl
  | (w, t) :: r => by simp only [toldL, List.map_cons, toldL_eq r]
theorem objL_eq : ∀ rows : TRs, objL rows = rows.map fun r => .tup [.int r.1, r.2.obj]
  | [] => rfl
  | (w, t) :: r => by simp only [objL, List.map_cons, objL_eq r]
theorem capL_eq : ∀ rows : TRs, capL rows = rows.map fun r => (r.1, r.2.caps)
  | [] => rfl
  | (w, t) :: r => by simp only [capL, List.map_cons, capL_eq r]
mutual
theorem Tr.ind {P : Tr → Prop} (he : ∀ w, P (.e w)) (hs : ∀ c rows, (∀ r ∈ rows, P r.2) → P (.s c rows)) : ∀ t, P t
  | .e w => he w
  | .s c rows => hs c rows (indL he hs rows)
theorem indL {P : Tr → Prop} (he : ∀ w, P (.e w)) (hs : ∀ c rows, (∀ r ∈ rows, P r.2) → P (.s c rows)) : ∀ rows : TRs, ∀ r ∈ rows, P r.2
  | [], _, h => absurd h List.not_mem_nil
  | (w, t) :: rs, r, h => by
    rcases List.mem_cons.mp h with z | z
    · rw [z]; exact Tr.ind he hs t
    · exact indL he hs rs r z
end
/-! worths, prices, weights and rows in bounds -/
mutual
def Tr.good : Tr → Prop
  | .e w => 0 ≤ w ∧ w ≤ 1000000000
  | .s c rows => 0 ≤ c ∧ c ≤ 1000000000 ∧ 1 ≤ rows.length ∧ rows.length ≤ 4 ∧ goodL rows
def goodL : TRs → Prop
  | [] => True
  | (w, t) :: r => 1 ≤ w ∧ w ≤ 1000 ∧ t.good ∧ goodL r
end
theorem goodL_mem : ∀ {rows : TRs}, goodL rows → ∀ r ∈ rows, 1 ≤ r.1 ∧ r.1 ≤ 1000 ∧ r.2.good
  | [], _, _, h => absurd h List.not_mem_nil
  | (w, t) :: rs, g, r, h => by
    obtain ⟨g1, g2, g3, g4⟩ := g
    rcases List.mem_cons.mp h with z | z
    · rw [z]; exact ⟨g1, g2, g3⟩
    · exact goodL_mem g4 r z
theorem deepL_mem : ∀ {rows : TRs}, ∀ r ∈ rows, r.2.deep ≤ deepL rows
  | [], _, h => absurd h List.not_mem_nil
  | (w, t) :: rs, r, h => by
    simp only [deepL]
    rcases List.mem_cons.mp h with z | z
    · rw [z]; exact Nat.le_max_left ..
    · exact Nat.le_trans (deepL_mem r z) (Nat.le_max_right ..)
theorem endsL_mem : ∀ {rows : TRs}, ∀ r ∈ rows, r.2.ends ≤ endsL rows
  | [], _, h => absurd h List.not_mem_nil
  | (w, t) :: rs, r, h => by
    simp only [endsL]
    rcases List.mem_cons.mp h with z | z
    · rw [z]; exact Nat.le_add_right ..
    · exact Nat.le_trans (endsL_mem r z) (Nat.le_add_left ..)
theorem nstL_mem : ∀ {rows : TRs}, ∀ r ∈ rows, r.2.nst ≤ nstL rows
  | [], _, h => absurd h List.not_mem_nil
  | (w, t) :: rs, r, h => by
    simp only [nstL]
    rcases List.mem_cons.mp h with z | z
    · rw [z]; exact Nat.le_add_right ..
    · exact Nat.le_trans (nstL_mem r z) (Nat.le_add_left ..)
theorem nst_le : ∀ t : Tr, t.good → 1 ≤ t.ends ∧ t.nst ≤ t.deep * t.ends := by
  refine Tr.ind (fun w _ => ⟨by simp [Tr.ends], by simp [Tr.nst]⟩) fun c rows ih g => ?_
  obtain ⟨_, _, l1, _, g⟩ := g
  have gm := goodL_mem g
  have L : ∀ (rs : TRs) (d : Nat), (∀ r ∈ rs, 1 ≤ r.2.ends ∧ r.2.nst ≤ r.2.deep * r.2.ends) → (∀ r ∈ rs, r.2.deep ≤ d) → rs.length ≤ endsL rs ∧ nstL rs ≤ d * endsL rs := fun rs d => by
    induction rs with
    | nil => intro _ _; simp [endsL, nstL]
    | cons r rs ih =>
      obtain ⟨w, t⟩ := r
      intro h k
      obtain ⟨i1, i2⟩ := ih (fun r hr => h r (List.mem_cons_of_mem _ hr)) fun r hr => k r (List.mem_cons_of_mem _ hr)
      obtain ⟨h1, h2⟩ := h (w, t) List.mem_cons_self
      have k := k (w, t) List.mem_cons_self
      have m := Nat.mul_le_mul_right t.ends k
      simp only [endsL, nstL, List.length_cons] at *
      rw [Nat.mul_add]
      exact ⟨by omega, by omega⟩
  obtain ⟨a, b⟩ := L rows (deepL rows) (fun r hr => ih r hr (gm r hr).2.2) deepL_mem
  simp only [Tr.ends, Tr.nst, Tr.deep]
  rw [Nat.add_mul]
  exact ⟨by omega, by omega⟩
/-! masses -/
def mass (l : List (Sh × Rat)) : Rat := sumR (fun e => e.2) l
theorem sum_one {m : Sh → Rat} (q : Rat) (k : Sh) : ∀ {rs : List TRow}, (rs.map (·.1)).Nodup → sumR (fun r : TRow => if k = r.1 then q else 0) rs = if k ∈ rs.map (·.1) then q else 0
  | [], _ => rfl
  | r :: rs, nd => by
    rw [List.map_cons, List.nodup_cons] at nd
    have ih := sum_one (m := m) q k (rs := rs) nd.2
    simp only [sumR]
    rw [ih]
    by_cases z : k = r.1
    · rw [if_pos z, z, if_neg nd.1, if_pos (by simp)]; grind
    · rw [if_neg z]
      by_cases y : k ∈ rs.map (·.1)
      · rw [if_pos y, if_pos (by rw [List.map_cons]; exact List.mem_cons_of_mem _ y)]; grind
      · rw [if_neg y, if_neg (by rw [List.map_cons]; intro w; rcases List.mem_cons.mp w with v | v; exact z v; exact y v)]; grind
theorem sum_keys {rs : List TRow} (nd : (rs.map (·.1)).Nodup) : ∀ {l : List (Sh × Rat)}, (∀ e ∈ l, e.1 ∈ rs.map (·.1)) → sumR (fun r => meas l r.1) rs = mass l
  | [], _ => by
    unfold mass
    rw [show (fun r : TRow => meas [] r.1) = fun _ => (0 : Rat) from rfl, sumR_zero]
    rfl
  | e :: l, h => by
    have ih := sum_keys nd (l := l) fun x hx => h x (List.mem_cons_of_mem _ hx)
    have one := sum_one (m := fun _ => 0) e.2 e.1 nd
    rw [if_pos (h e List.mem_cons_self)] at one
    unfold mass at *
    simp only [meas, sumR]
    rw [sumR_add, ih, one]
theorem IsTab.nd {rows : List TRow} {m : Sh → Rat} (h : IsTab rows m) : (rows.map (·.1)).Nodup := h.up.imp fun {a b} q z => by rw [z] at q; grind
/-- the sum of the weights -/
theorem IsTab.tot_le {rows : List TRow} {l : List (Sh × Rat)} (h : IsTab rows (meas l)) (pos : ∀ e ∈ l, 0 < e.2) {R : Int} (h0 : 0 < R) (hR : ∀ e ∈ l, ∃ i : Int, (i : Rat) = (R : Rat) * e.2) : (tot rows : Rat) ≤ (R : Rat) * mass l := by
  have hm : ∀ k, ∃ i : Int, (i : Rat) = (R : Rat) * meas l k := fun k => by
    clear h pos
    induction l with
    | nil => exact ⟨0, by simp only [meas]; push_cast; grind⟩
    | cons e l ih =>
      obtain ⟨i, hi⟩ := ih fun x hx => hR x (List.mem_cons_of_mem _ hx)
      obtain ⟨j, hj⟩ := hR e List.mem_cons_self
      simp only [meas]
      by_cases q : e.1 = k
      · exact ⟨j + i, by rw [if_pos q]; push_cast; rw [hi, hj]; grind⟩
      · exact ⟨i, by rw [if_neg q, hi]; grind⟩
  have sm := h.small h0 fun r hr => hm r.1
  have cov : ∀ e ∈ l, e.1 ∈ rows.map (·.1) := fun e he => h.key e.1 (by
    have g := meas_ge (l := l) (k := e.1) (e := e) (fun x hx => by have := pos x hx; grind) he rfl
    have := pos e he
    intro z
    rw [z] at g
    grind)
  have le : ∀ {rs : List TRow}, (∀ r ∈ rs, (r.2 : Rat) ≤ (R : Rat) * meas l r.1) → (tot rs : Rat) ≤ sumR (fun r => (R : Rat) * meas l r.1) rs := fun {rs} => by
    induction rs with
    | nil => intro _; simp only [tot, sumR]; push_cast; grind
    | cons r rs ih =>
      intro k
      have i := ih fun x hx => k x (List.mem_cons_of_mem _ hx)
      have := k r List.mem_cons_self
      simp only [tot, sumR]
      push_cast
      grind
  have := le sm
  rw [sumR_scale, sum_keys h.nd cov] at this
  exact this
theorem val_le {p : Sh} {X : Int} (h : 0 < p.2) (k : val p ≤ (X : Rat)) : p.1 ≤ X * p.2 := by
  have l := lt_val (p := (X, 1)) (q := p) (by show (0 : Int) < 1; decide) h
  rw [val_one] at l
  have : ¬ (X * p.2 < p.1 * 1) := fun z => by have := l.mp z; grind
  omega
theorem val_ge {p : Sh} {X : Int} (h : 0 < p.2) (k : (X : Rat) ≤ val p) : X * p.2 ≤ p.1 := by
  have l := lt_val (p := p) (q := (X, 1)) h (by show (0 : Int) < 1; decide)
  rw [val_one] at l
  have : ¬ (p.1 * 1 < X * p.2) := fun z => by have := l.mp z; grind
  omega
theorem pz_of {n m : Nat} {p : Sh} {D X : Int} (h : 0 < p.2) (d : p.2 ∣ D) (D0 : 0 < D) (Dn : Sz n D) (h1 : ((-X : Int) : Rat) ≤ val p) (h2 : val p ≤ (X : Rat)) (Xm : Sz m X) (X0 : 0 ≤ X) : Pz (n + m) p := by
  have le := Int.le_of_dvd D0 d
  have b : Sz n p.2 := Dn.of_le (by omega)
  have u := val_le h h2
  have v := val_ge h h1
  rw [Int.neg_mul] at v
  have w : Sz (m + n) (X * p.2) := Xm.mul b
  exact ⟨h, (w.of_le (by omega)).mono (by omega), b.mono (by omega)⟩
theorem sz_pow {n : Nat} {i : Int} (h0 : 0 ≤ i) (h : i ≤ 2 ^ n) : Sz (n + 1) i := by
  unfold Sz
  have e : (2 : Int) ^ n = ((2 ^ n : Nat) : Int) := by push_cast; rfl
  rw [e] at h
  have : i.natAbs ≤ 2 ^ n := by omega
  rw [Nat.pow_succ]
  have := Nat.pow_pos (n := n) (show 0 < 2 by decide)
  omega
theorem pow_mono {a b : Nat} (h : a ≤ b) : (2 : Int) ^ a ≤ 2 ^ b := by
  have := Nat.pow_le_pow_right (show 0 < 2 by decide) h
  exact_mod_cast this
theorem pow_pos' (n : Nat) : (0 : Int) < 2 ^ n := by
  have := Nat.pow_pos (n := n) (show 0 < 2 by decide)
  exact_mod_cast this
theorem mul_pow {a b : Int} {m n : Nat} (a0 : 0 ≤ a) (b0 : 0 ≤ b) (h : a ≤ 2 ^ m) (k : b ≤ 2 ^ n) : a * b ≤ 2 ^ (m + n) := by
  rw [Int.pow_add]
  exact Int.mul_le_mul h k b0 (by have := pow_pos' m; omega)
/-! what is true of a stand's caps -/
structure Inv (T : Tr) : Prop where
  tab : ∃ m, IsTab T.caps m
  ne : T.caps ≠ []
  len : T.caps.length ≤ T.ends
  tot : tot T.caps ≤ 2 ^ (12 * T.nst)
  den : ∃ D : Int, 0 < D ∧ D ≤ 2 ^ (12 * (T.nst * T.nst)) ∧ ∀ r ∈ T.caps, r.1.2 ∣ D
  hi : ∀ r ∈ T.caps, val r.1 ≤ ((1000000000 : Int) : Rat)
  low : ∀ r ∈ T.caps, ((-(1000000000 * (T.deep : Int)) : Int) : Rat) ≤ val r.1
theorem tot_mem {r : TRow} : ∀ {rows : List TRow}, (∀ x ∈ rows, 1 ≤ x.2) → r ∈ rows → r.2 ≤ tot rows
  | [], _, h => absurd h List.not_mem_nil
  | x :: xs, p, h => by
    have nn : ∀ {ys : List TRow}, (∀ y ∈ ys, 1 ≤ y.2) → 0 ≤ tot ys := fun {ys} => by
      induction ys with
      | nil => intro _; simp [tot]
      | cons y ys ih =>
        intro k
        have := ih fun z hz => k z (List.mem_cons_of_mem _ hz)
        have := k y List.mem_cons_self
        simp only [tot]; omega
    have := p x List.mem_cons_self
    simp only [tot]
    rcases List.mem_cons.mp h with z | z
    · rw [z]
      have := nn fun y hy => p y (List.mem_cons_of_mem _ hy)
      omega
    · have := tot_mem (fun y hy => p y (List.mem_cons_of_mem _ hy)) z
      omega
/-- small enough for all that is reckoned -/
theorem Inv.rows {T : Tr} (I : Inv T) (n : T.nst ≤ 48) (d : T.deep ≤ 4) : Rows 27700 600 T.caps := ⟨fun r hr => by
  obtain ⟨m, h⟩ := I.tab
  obtain ⟨D, D0, Dn, dv⟩ := I.den
  have lo := h.lo r hr
  have nn := Nat.mul_le_mul n n
  have DS := sz_pow (by omega) (Int.le_trans Dn (pow_mono (show 12 * (T.nst * T.nst) ≤ 27648 by omega)))
  have l1 := I.low r hr
  have l2 := I.hi r hr
  have pz := pz_of (m := 40) (X := 4000000000) lo.pos (dv r hr) D0 DS (by
    have : ((-4000000000 : Int) : Rat) ≤ ((-(1000000000 * (T.deep : Int)) : Int) : Rat) := by
      rw [Rat.intCast_le_intCast]; omega
    grind) (by
    have : ((1000000000 : Int) : Rat) ≤ ((4000000000 : Int) : Rat) := by
      rw [Rat.intCast_le_intCast]; omega
    grind) .lit (by decide)
  have tm := tot_mem h.pos hr
  have p := h.pos r hr
  exact ⟨lo, pz.mono (by omega), (sz_pow (by omega) (Int.le_trans tm (Int.le_trans I.tot (pow_mono (show 12 * T.nst ≤ 576 by omega))))).mono (by omega), p⟩⟩
theorem end_inv {w : Int} (h : 0 ≤ w) (k : w ≤ 1000000000) : Inv (.e w) := by
  have t : IsTab [((w, 1), 1)] (meas [((w, 1), (1 : Rat))]) := by
    refine ⟨fun r hr => ?_, by simp, fun r hr => ?_, fun k hk => ?_, ⟨1, by grind, fun r hr => ?_⟩, fun d d0 hd => .inr ?_⟩
    · rw [List.mem_singleton.mp hr]; exact lo_one w
    · rw [List.mem_singleton.mp hr]; show (1 : Int) ≤ 1; decide
    · exact meas_mem hk
    · rw [List.mem_singleton.mp hr]
      simp only [meas, if_true]
      push_cast
      grind
    · have := hd _ (List.mem_singleton.mpr rfl)
      have := Int.le_of_dvd (show (0 : Int) < 1 by decide) this
      show d = 1
      have : d ≤ 1 := this
      omega
  have c : (Tr.e w).caps = [((w, 1), 1)] := by simp only [Tr.caps]
  refine ⟨⟨_, by rw [c]; exact t⟩, by rw [c]; simp, by rw [c]; simp [Tr.ends], by rw [c]; simp [tot, Tr.nst], ⟨1, by decide, by simp [Tr.nst], fun r hr => ?_⟩, fun r hr => ?_, fun r hr => ?_⟩
  · rw [c] at hr; rw [List.mem_singleton.mp hr]; exact Int.dvd_refl 1
  · rw [c] at hr; rw [List.mem_singleton.mp hr, show (((w, 1), 1) : TRow).1 = (w, 1) from rfl, val_one, Rat.intCast_le_intCast]; exact k
  · rw [c] at hr; rw [List.mem_singleton.mp hr, show (((w, 1), 1) : TRow).1 = (w, 1) from rfl, val_one, Rat.intCast_le_intCast]; simp [Tr.deep]; exact h
end Tb

/-! a stage's table, level and caps -/
namespace Tb
open PySem PySem.Spec PyProof.Rows L2 A LF DT
open Law (fr2 lowF)
theorem mass_app (a b : List (Sh × Rat)) : mass (a ++ b) = mass a + mass b := sumR_app _ _ _
theorem mass_block {w : Int} {t : List TRow} {T : Rat} (T0 : T ≠ 0) (h : (tot t : Rat) = T) : mass (t.map fun r => (r.1, (w : Rat) * (r.2 : Rat) / T)) = (w : Rat) := by
  have : mass (t.map fun r => (r.1, (w : Rat) * (r.2 : Rat) / T)) = (w : Rat) / T * (tot t : Rat) := by
    unfold mass
    rw [sumR_map, tot_rat, ← sumR_scale]
    exact sumR_congr fun r _ => by grind
  rw [this, h]
  grind
def wsum : TRs → Int
  | [] => 0
  | r :: rs => r.1 + wsum rs
theorem wsum_le : ∀ {rows : TRs}, (∀ r ∈ rows, 1 ≤ r.1 ∧ r.1 ≤ 1000) → 0 ≤ wsum rows ∧ wsum rows ≤ 1000 * rows.length ∧ (rows.length : Int) ≤ wsum rows
  | [], _ => by simp [wsum]
  | r :: rs, h => by
    obtain ⟨a, b, c⟩ := wsum_le fun x hx => h x (List.mem_cons_of_mem _ hx)
    have := h r List.mem_cons_self
    simp only [wsum, List.length_cons]
    push_cast
    exact ⟨by omega, by omega, by omega⟩
theorem mass_mix : ∀ {rows : TRs}, (∀ r ∈ rows, 0 < tot r.2.caps) → mass (mixM (capL rows)) = (wsum rows : Rat)
  | [], _ => by simp only [capL, mixM, List.flatMap_nil, mass, sumR, wsum]; push_cast; rfl
  | (w, t) :: rs, h => by
    have ih := mass_mix (rows := rs) fun x hx => h x (List.mem_cons_of_mem _ hx)
    have tp := h (w, t) List.mem_cons_self
    have b := mass_block (w := w) (t := t.caps) (T := (tot t.caps : Rat)) (ne_cast (by show tot t.caps ≠ 0; have : 0 < tot t.caps := tp; omega)) rfl
    unfold mixM at *
    simp only [capL, List.flatMap_cons]
    rw [mass_app, ih, b]
    simp only [wsum]
    push_cast
    rfl
theorem common_R : ∀ {rows : TRs}, (∀ r ∈ rows, 0 < tot r.2.caps ∧ tot r.2.caps ≤ 2 ^ (12 * r.2.nst)) → ∃ R : Int, 0 < R ∧ R ≤ 2 ^ (12 * nstL rows) ∧ ∀ r ∈ rows, tot r.2.caps ∣ R
  | [], _ => ⟨1, by decide, by simp [nstL], fun r hr => absurd hr List.not_mem_nil⟩
  | (w, t) :: rs, h => by
    obtain ⟨R, R0, Rn, dv⟩ := common_R (rows := rs) fun x hx => h x (List.mem_cons_of_mem _ hx)
    obtain ⟨a, b⟩ := h (w, t) List.mem_cons_self
    refine ⟨tot t.caps * R, Int.mul_pos a R0, ?_, fun r hr => ?_⟩
    · have a' : 0 < tot t.caps := a
      have := mul_pow (by omega) (by omega) b Rn
      simp only [nstL]
      rw [show 12 * (t.nst + nstL rs) = 12 * t.nst + 12 * nstL rs by omega]
      exact this
    · rcases List.mem_cons.mp hr with z | z
      · rw [z]; exact ⟨R, rfl⟩
      · exact Int.dvd_trans (dv r z) ⟨tot t.caps, Int.mul_comm _ _⟩
theorem sq_add (a b : Nat) : a * a + b * b ≤ (a + b) * (a + b) := by
  rw [Nat.mul_add, Nat.add_mul, Nat.add_mul]
  omega
theorem common_D : ∀ {rows : TRs}, (∀ r ∈ rows, Inv r.2) → ∃ D : Int, 0 < D ∧ D ≤ 2 ^ (12 * (nstL rows * nstL rows)) ∧ ∀ r ∈ rows, ∀ x ∈ r.2.caps, x.1.2 ∣ D
  | [], _ => ⟨1, by decide, by simp [nstL], fun r hr => absurd hr List.not_mem_nil⟩
  | (w, t) :: rs, h => by
    obtain ⟨R, R0, Rn, dv⟩ := common_D (rows := rs) fun x hx => h x (List.mem_cons_of_mem _ hx)
    obtain ⟨D, D0, Dn, dd⟩ := (h (w, t) List.mem_cons_self).den
    refine ⟨D * R, Int.mul_pos D0 R0, ?_, fun r hr x hx => ?_⟩
    · have := mul_pow (by omega) (by omega) Dn Rn
      refine Int.le_trans this (pow_mono ?_)
      simp only [nstL]
      have := sq_add t.nst (nstL rs)
      omega
    · rcases List.mem_cons.mp hr with z | z
      · rw [z] at hx; exact Int.dvd_trans (dd x hx) ⟨R, rfl⟩
      · exact Int.dvd_trans (dv r z x hx) ⟨D, Int.mul_comm _ _⟩
theorem val_int {p : Sh} (h : Lo p) {m i : Int} (e : val p * (m : Rat) = (i : Rat)) : p.2 ∣ m := by
  have p2 := h.pos
  have e1 : (p.2 : Rat) ≠ 0 := ne_cast (by omega)
  have : ((p.1 * m : Int) : Rat) = ((i * p.2 : Int) : Rat) := by
    push_cast
    rw [← e]
    show (p.1 : Rat) * m = (p.1 : Rat) / (p.2 : Rat) * m * (p.2 : Rat)
    grind
  have e2 : p.1 * m = i * p.2 := by exact_mod_cast this
  exact cop (a := p.1) h.one ⟨i, by rw [e2, Int.mul_comm]⟩
theorem full_int {D : Int} : ∀ {rows : List TRow}, (∀ r ∈ rows, 0 < r.1.2 ∧ r.1.2 ∣ D) → ∃ i : Int, fullV rows * (D : Rat) = (i : Rat)
  | [], _ => ⟨0, by unfold fullV; simp only [sumR]; push_cast; grind⟩
  | r :: rs, h => by
    obtain ⟨i, hi⟩ := full_int (rows := rs) fun x hx => h x (List.mem_cons_of_mem _ hx)
    obtain ⟨p, q, hq⟩ := h r List.mem_cons_self
    have e1 : (r.1.2 : Rat) ≠ 0 := ne_cast (by omega)
    refine ⟨r.1.1 * q * r.2 + i, ?_⟩
    unfold fullV at *
    simp only [sumR]
    push_cast
    rw [← hi]
    have : val r.1 * (D : Rat) = (r.1.1 : Rat) * (q : Rat) := by
      show (r.1.1 : Rat) / (r.1.2 : Rat) * (D : Rat) = _
      rw [hq]
      push_cast
      grind
    grind
/-- what a stage's table, level and caps are -/
structure StageOk (c : Int) (rows : TRs) : Prop where
  inv : Inv (.s c rows)
  mixL : LTab 27700 600 (Tr.mix (.s c rows))
  mixI : IsTab (Tr.mix (.s c rows)) (meas (mixM (capL rows)))
  mixN : (Tr.mix (.s c rows)).length ≤ 12
  lev : IsLev (Tr.mix (.s c rows)) c (Tr.lev (.s c rows))
  levZ : Pz 27700 (Tr.lev (.s c rows))
  capI : IsTab (Tr.caps (.s c rows)) (meas (capM (Tr.mix (.s c rows)) (Tr.lev (.s c rows))))
  mixed : ∀ u, f_mixed [.lst u ((capL rows).map wtE)] = .ok (.lst true ((Tr.mix (.s c rows)).map rowE)) true
  level : ∀ t, ∃ fr, f_level_for [.lst t ((Tr.mix (.s c rows)).map rowE), .int c] = .ok (fr2 (Tr.lev (.s c rows))) fr
  capped : ∀ t, f_capped [.lst t ((Tr.mix (.s c rows)).map rowE), fr2 (Tr.lev (.s c rows))] = .ok (.lst true ((Tr.caps (.s c rows)).map rowE)) true
theorem stage_ok {c : Int} {rows : TRs} (g : (Tr.s c rows).good) (ih : ∀ r ∈ rows, Inv r.2) (n : (Tr.s c rows).nst ≤ 48) (d : (Tr.s c rows).deep ≤ 4) (e : (Tr.s c rows).ends ≤ 12) : StageOk c rows := by
  obtain ⟨c0, c1, l1, l4, g⟩ := g
  have gm := goodL_mem g
  have nE : (Tr.s c rows).nst = 1 + nstL rows := by simp only [Tr.nst]
  have dE : (Tr.s c rows).deep = 1 + deepL rows := by simp only [Tr.deep]
  have eE : (Tr.s c rows).ends = endsL rows := by simp only [Tr.ends]
  have sub : ∀ r ∈ rows, Rows 27700 600 r.2.caps ∧ r.2.caps ≠ [] ∧ r.2.caps.length ≤ 12 := fun r hr => by
    have := nstL_mem r hr
    have := deepL_mem r hr
    have := endsL_mem r hr
    have I := ih r hr
    have := I.len
    exact ⟨I.rows (by omega) (by omega), I.ne, by omega⟩
  have tp : ∀ r ∈ rows, 0 < tot r.2.caps := fun r hr => tot_pos (sub r hr).1 (sub r hr).2.1
  have W : WRows 27700 600 12 (capL rows) := ⟨fun w hw => by
    rw [capL_eq] at hw
    obtain ⟨r, hr, rfl⟩ := List.mem_map.mp hw
    obtain ⟨a, b, _⟩ := gm r hr
    obtain ⟨x, y, z⟩ := sub r hr
    exact ⟨a, (sz_of (n := 20) (b := 1000) (by show -1000 ≤ r.1; omega) b (by decide)).mono (by omega), x, y, z⟩⟩
  have cl : (capL rows).length = rows.length := by rw [capL_eq, List.length_map]
  have M : ∀ u, f_mixed [.lst u ((capL rows).map wtE)] = .ok (.lst true ((mixT (capL rows)).map rowE)) true := fun u => by
    obtain ⟨out, e, T, _⟩ := mixed_ok (u := u) W (by rw [cl]; omega) (by decide) (by decide) (by decide)
    rw [e, show mixT (capL rows) = out from tabM_eq T]
  obtain ⟨out, _, T, ol, ok⟩ := mixed_ok (u := true) W (by rw [cl]; omega) (by decide) (by decide) (by decide)
  have eo : mixT (capL rows) = out := tabM_eq T
  have mE : Tr.mix (.s c rows) = out := by show mixT (capL rows) = out; exact eo
  -- the lengths
  have fl : ∀ (rs : TRs), (∀ r ∈ rs, r.2.caps.length ≤ r.2.ends) → ((capL rs).flatMap mixP).length ≤ endsL rs := fun rs => by
    induction rs with
    | nil => intro _; simp [capL, endsL]
    | cons r rs ih2 =>
      obtain ⟨w, t⟩ := r
      intro h
      have a := ih2 fun x hx => h x (List.mem_cons_of_mem _ hx)
      have b : t.caps.length ≤ t.ends := h (w, t) List.mem_cons_self
      simp only [capL, List.flatMap_cons, List.length_append, endsL]
      have : (mixP (w, t.caps)).length = t.caps.length := List.length_map _
      omega
  have lo12 : out.length ≤ endsL rows := Nat.le_trans ol (fl rows fun r hr => (ih r hr).len)
  -- a worth of the mix is a worth beneath
  have key : ∀ x ∈ out, ∃ r ∈ rows, ∃ y ∈ r.2.caps, y.1 = x.1 := fun x hx => by
    obtain ⟨_, k⟩ := ok x hx
    obtain ⟨p, hp, ep⟩ := List.mem_map.mp k
    obtain ⟨w, hw, hp⟩ := List.mem_flatMap.mp hp
    rw [capL_eq] at hw
    obtain ⟨r, hr, rfl⟩ := List.mem_map.mp hw
    obtain ⟨y, hy, rfl⟩ := List.mem_map.mp hp
    exact ⟨r, hr, y, hy, ep⟩
  -- the sum of the weights
  obtain ⟨R, R0, Rn, Rd⟩ := common_R (rows := rows) fun r hr => ⟨tp r hr, (ih r hr).tot⟩
  obtain ⟨w0, w1, w2⟩ := wsum_le (rows := rows) fun r hr => ⟨(gm r hr).1, (gm r hr).2.1⟩
  have ent : ∀ e ∈ mixM (capL rows), 0 < e.2 ∧ ∃ i : Int, (i : Rat) = (R : Rat) * e.2 := fun e he => by
    unfold mixM at he
    obtain ⟨w, hw, he⟩ := List.mem_flatMap.mp he
    rw [capL_eq] at hw
    obtain ⟨r, hr, rfl⟩ := List.mem_map.mp hw
    obtain ⟨y, hy, rfl⟩ := List.mem_map.mp he
    have a := (gm r hr).1
    have b := ((sub r hr).1.ok y hy).2.2.2
    have t0 := tp r hr
    have tr : (0 : Rat) < (tot r.2.caps : Rat) := by exact_mod_cast t0
    have ab : (0 : Rat) < (r.1 : Rat) * (y.2 : Rat) := Rat.mul_pos (by exact_mod_cast (show (0 : Int) < r.1 by omega)) (by exact_mod_cast (show (0 : Int) < y.2 by omega))
    obtain ⟨q, hq⟩ := Rd r hr
    refine ⟨?_, r.1 * y.2 * q, ?_⟩
    · show (0 : Rat) < (r.1 : Rat) * (y.2 : Rat) / (tot r.2.caps : Rat)
      rw [Rat.div_def]
      exact Rat.mul_pos ab (Rat.inv_pos.mpr tr)
    · show ((r.1 * y.2 * q : Int) : Rat) = (R : Rat) * ((r.1 : Rat) * (y.2 : Rat) / (tot r.2.caps : Rat))
      rw [hq]
      push_cast
      have : (tot r.2.caps : Rat) ≠ 0 := by grind
      grind
  have tl := T.tot_le (fun e he => (ent e he).1) R0 fun e he => (ent e he).2
  rw [mass_mix tp] at tl
  have tl : tot out ≤ R * wsum rows := by
    have : (tot out : Rat) ≤ ((R * wsum rows : Int) : Rat) := by push_cast; exact tl
    exact_mod_cast this
  have tN : tot out ≤ 2 ^ (12 * (Tr.s c rows).nst) := by
    have := mul_pow (by omega) w0 Rn (show wsum rows ≤ 2 ^ 12 by
      have : (2 : Int) ^ 12 = 4096 := by decide
      omega)
    rw [nE, show 12 * (1 + nstL rows) = 12 * nstL rows + 12 by omega]
    omega
  have t576 : ∀ {i : Int}, 0 ≤ i → i ≤ 2 ^ (12 * (Tr.s c rows).nst) → Sz 577 i := fun h0 h => sz_pow h0 (Int.le_trans h (pow_mono (by omega)))
  -- the bottoms
  obtain ⟨D, D0, Dn, Dd⟩ := common_D ih
  have outD : ∀ x ∈ out, x.1.2 ∣ D := fun x hx => by
    obtain ⟨r, hr, y, hy, e⟩ := key x hx
    rw [← e]; exact Dd r hr y hy
  have outH : ∀ x ∈ out, val x.1 ≤ ((1000000000 : Int) : Rat) := fun x hx => by
    obtain ⟨r, hr, y, hy, e⟩ := key x hx
    rw [← e]; exact (ih r hr).hi y hy
  have outL : ∀ x ∈ out, ((-(1000000000 * (deepL rows : Int)) : Int) : Rat) ≤ val x.1 := fun x hx => by
    obtain ⟨r, hr, y, hy, e⟩ := key x hx
    rw [← e]
    have a := (ih r hr).low y hy
    have b := deepL_mem r hr
    have : ((-(1000000000 * (deepL rows : Int)) : Int) : Rat) ≤ ((-(1000000000 * (r.2.deep : Int)) : Int) : Rat) := by
      rw [Rat.intCast_le_intCast]; omega
    grind
  have outNe : out ≠ [] := by
    intro z
    cases rows with
    | nil => simp at l1
    | cons r rs =>
      obtain ⟨y, hy⟩ := List.exists_mem_of_ne_nil _ (sub r List.mem_cons_self).2.1
      have he : (y.1, (r.1 : Rat) * (y.2 : Rat) / (tot r.2.caps : Rat)) ∈ mixM (capL (r :: rs)) := List.mem_flatMap.mpr ⟨(r.1, r.2.caps), by rw [capL_eq]; exact List.mem_cons_self, List.mem_map.mpr ⟨y, hy, rfl⟩⟩
      have g := meas_ge (fun x hx => by have := (ent x hx).1; grind) he rfl
      have := (ent _ he).1
      have k := T.key y.1 (by
        intro w
        rw [w] at g
        grind)
      rw [z] at k
      simp at k
  have NN := Nat.mul_le_mul (show nstL rows ≤ 47 by omega) (show nstL rows ≤ 47 by omega)
  have DS : Sz 26600 D := (sz_pow (by omega) (Int.le_trans Dn (pow_mono (show 12 * (nstL rows * nstL rows) ≤ 26508 by omega)))).mono (by omega)
  have up4 : ((1000000000 : Int) : Rat) ≤ ((4000000000 : Int) : Rat) := by rw [Rat.intCast_le_intCast]; omega
  have outR : Rows 27700 600 out := ⟨fun x hx => by
    have p := T.pos x hx
    have tm := tot_mem T.pos hx
    have h1 := outL x hx
    have h2 := outH x hx
    have dn : ((-4000000000 : Int) : Rat) ≤ ((-(1000000000 * (deepL rows : Int)) : Int) : Rat) := by rw [Rat.intCast_le_intCast]; omega
    exact ⟨T.lo x hx, (pz_of (m := 40) (X := 4000000000) (T.lo x hx).pos (outD x hx) D0 DS (by grind) (by grind) .lit (by decide)).mono (by omega), (t576 (by omega) (by omega)).mono (by omega), p⟩⟩
  have LT : LTab 27700 600 out := ⟨outNe, T.up, outR⟩
  obtain ⟨l, _, _, IL⟩ := level_ok (t := true) LT c0 c1 (by omega) (by
    have := Nat.mul_le_mul_left (27700 + 600 + 3) (show out.length + 1 ≤ 13 by omega)
    omega)
  have el : levF out c = l := levF_eq LT c0 IL
  have lE : Tr.lev (.s c rows) = l := by show levF (mixT (capL rows)) c = l; rw [eo, el]
  have totP := tot_pos outR outNe
  -- the level's bottom and bounds
  have lD : ∃ D2 : Int, 0 < D2 ∧ D2 ≤ 2 ^ (12 * ((Tr.s c rows).nst * (Tr.s c rows).nst)) ∧ D ∣ D2 ∧ l.2 ∣ D2 := by
    have grow : ∀ k : Int, 0 < k → k ≤ 2 ^ (12 * (Tr.s c rows).nst) → D * k ≤ 2 ^ (12 * ((Tr.s c rows).nst * (Tr.s c rows).nst)) := fun k k0 kn => by
      have := mul_pow (by omega) (by omega) Dn kn
      refine Int.le_trans this (pow_mono ?_)
      rw [nE]
      have : (1 + nstL rows) * (1 + nstL rows) = nstL rows * nstL rows + 2 * nstL rows + 1 := by
        simp only [Nat.add_mul, Nat.mul_add]; omega
      omega
    rcases IL.cut with ⟨r, hr, z⟩ | ⟨pre, suf, z, ne, q, _, _⟩
    · refine ⟨D * 1, by omega, grow 1 (by decide) (by have := pow_pos' (12 * (Tr.s c rows).nst); omega), ⟨1, rfl⟩, ?_⟩
      rw [Int.mul_one, z]
      exact outD r hr
    · have sR := outR.sub z
      have s0 := tot_pos sR ne
      have sle : tot suf ≤ tot out := by
        rw [z, tot_app]
        have pR : Rows 27700 600 pre := ⟨fun r hr => outR.ok r (by rw [z]; exact List.mem_append_left _ hr)⟩
        have := (tot_sz pR).2
        omega
      refine ⟨D * tot suf, Int.mul_pos D0 s0, grow _ s0 (by omega), ⟨tot suf, rfl⟩, ?_⟩
      obtain ⟨i, hi⟩ := full_int (D := D) (rows := suf) fun r hr => ⟨(sR.ok r hr).2.1.pos, outD r (by rw [z]; exact List.mem_append_right _ hr)⟩
      refine val_int IL.lo (i := i - c * tot out * D) ?_
      push_cast
      rw [← hi]
      have : val l * ((D : Rat) * (tot suf : Rat)) = val l * (tot suf : Rat) * (D : Rat) := by grind
      rw [this, q]
      grind
  obtain ⟨D2, E0, En, Edv, El⟩ := lD
  have lH : val l ≤ ((1000000000 : Int) : Rat) := by
    obtain ⟨pre, r, z, _, le⟩ := IL.top
    have := outH r (by rw [z]; simp)
    grind
  have step : ((-(1000000000 * ((Tr.s c rows).deep : Int)) : Int) : Rat) = ((-(1000000000 * (deepL rows : Int)) : Int) : Rat) - ((1000000000 : Int) : Rat) := by
    rw [dE]; push_cast; grind
  have b0 : (0 : Rat) ≤ ((1000000000 : Int) : Rat) := by rw [show (0 : Rat) = ((0 : Int) : Rat) from rfl, Rat.intCast_le_intCast]; decide
  have lL : ((-(1000000000 * ((Tr.s c rows).deep : Int)) : Int) : Rat) ≤ val l := by
    rw [step]
    rcases IL.cut with ⟨r, hr, z⟩ | ⟨pre, suf, z, ne, q, up, dn⟩
    · have := outL r hr
      rw [z]
      grind
    · by_cases p0 : pre = []
      · subst p0
        rw [List.nil_append] at z
        subst z
        have t0 : (0 : Rat) < (tot out : Rat) := by exact_mod_cast totP
        have fv : ∀ (X : Rat) {rs : List TRow}, (∀ r ∈ rs, X ≤ val r.1 ∧ 1 ≤ r.2) → X * (tot rs : Rat) ≤ fullV rs := fun X {rs} => by
          induction rs with
          | nil => intro _; unfold fullV; simp only [tot, sumR]; push_cast; grind
          | cons r rs ih3 =>
            intro h
            have i := ih3 fun x hx => h x (List.mem_cons_of_mem _ hx)
            obtain ⟨a, b⟩ := h r List.mem_cons_self
            have b' : (0 : Rat) ≤ (r.2 : Rat) := by
              have : (1 : Rat) ≤ (r.2 : Rat) := by exact_mod_cast b
              grind
            have m := Rat.mul_le_mul_of_nonneg_right a (c := (r.2 : Rat)) b'
            unfold fullV at *
            simp only [tot, sumR]
            push_cast
            grind
        have f := fv _ fun r hr => ⟨outL r hr, (outR.ok r hr).2.2.2⟩
        have cR : (c : Rat) ≤ ((1000000000 : Int) : Rat) := by rw [Rat.intCast_le_intCast]; exact c1
        have m := Rat.mul_le_mul_of_nonneg_right cR (c := (tot out : Rat)) (by grind)
        by_cases y : ((-(1000000000 * (deepL rows : Int)) : Int) : Rat) - ((1000000000 : Int) : Rat) ≤ val l
        · exact y
        · have y : val l < ((-(1000000000 * (deepL rows : Int)) : Int) : Rat) - ((1000000000 : Int) : Rat) := by grind
          have := (mul_lt t0).mpr y
          grind
      · obtain ⟨r, hr⟩ := List.exists_mem_of_ne_nil _ p0
        have a := dn r hr
        have b := outL r (by rw [z]; exact List.mem_append_left _ hr)
        grind
  have dnd : ((-4000000000 : Int) : Rat) ≤ ((-(1000000000 * ((Tr.s c rows).deep : Int)) : Int) : Rat) := by rw [Rat.intCast_le_intCast]; omega
  have N2 := Nat.mul_le_mul n n
  have ES : Sz 27660 D2 := (sz_pow (by omega) (Int.le_trans En (pow_mono (show 12 * ((Tr.s c rows).nst * (Tr.s c rows).nst) ≤ 27648 by omega)))).mono (by omega)
  have lZ : Pz 27700 l := (pz_of (m := 40) (X := 4000000000) IL.lo.pos El E0 ES (by grind) (by grind) .lit (by decide)).mono (by omega)
  have CP : ∀ t, f_capped [.lst t (out.map rowE), fr2 l] = .ok (.lst true ((capF out l).map rowE)) true ∧ IsTab (capF out l) (meas (capM out l)) ∧ (capF out l).length ≤ out.length := fun t => by
    obtain ⟨_, _, e, out2, rfl, rfl, T2, len⟩ := capped_ok (t := t) outR lZ IL.lo (by omega) (by omega) (by omega) (by
      have := Nat.mul_le_mul_right (600 + 1 + 1) (show out.length ≤ 12 by omega)
      have := Nat.mul_le_mul (show out.length ≤ 12 by omega) (show 1 + out.length * (600 + 1 + 1) ≤ 1 + 12 * 602 by omega)
      omega)
    have eq : capF out l = out2 := tabM_eq T2
    rw [eq]
    exact ⟨e, T2, len⟩
  obtain ⟨_, TC, len⟩ := CP true
  have cE : Tr.caps (.s c rows) = capF out l := by
    simp only [Tr.caps]
    rw [eo, el]
  have capK : ∀ x ∈ capF out l, (∃ r ∈ out, x.1 = r.1) ∨ x.1 = l := fun x hx => by
    have k := (TC.ne (k := x.1)).mp (List.mem_map.mpr ⟨x, hx, rfl⟩)
    obtain ⟨p, hp, ep⟩ := List.mem_map.mp (meas_mem k)
    obtain ⟨r, hr, rfl⟩ := List.mem_map.mp hp
    rcases les_cases r.1 l with z | z
    · exact .inl ⟨r, hr, by rw [← ep]; exact z⟩
    · exact .inr (by rw [← ep]; exact z)
  have capT : tot (capF out l) ≤ tot out := by
    have := TC.tot_le (R := 1) (fun e he => by
      obtain ⟨r, hr, rfl⟩ := List.mem_map.mp he
      show (0 : Rat) < (r.2 : Rat)
      exact_mod_cast (show (0 : Int) < r.2 by have := (outR.ok r hr).2.2.2; omega)) (by decide) fun e he => by
      obtain ⟨r, hr, rfl⟩ := List.mem_map.mp he
      exact ⟨r.2, by push_cast; grind⟩
    rw [show mass (capM out l) = (tot out : Rat) by unfold mass capM; rw [sumR_map, tot_rat]] at this
    have : (tot (capF out l) : Rat) ≤ (tot out : Rat) := by push_cast at this; grind
    exact_mod_cast this
  have capNe : capF out l ≠ [] := by
    intro z
    obtain ⟨r, hr⟩ := List.exists_mem_of_ne_nil _ outNe
    have he : (lesF r.1 l, (r.2 : Rat)) ∈ capM out l := List.mem_map.mpr ⟨r, hr, rfl⟩
    have g := meas_ge (fun x hx => by
      obtain ⟨y, hy, rfl⟩ := List.mem_map.mp hx
      have := (outR.ok y hy).2.2.2
      have : (1 : Rat) ≤ (y.2 : Rat) := by exact_mod_cast this
      show (0 : Rat) ≤ (y.2 : Rat)
      grind) he rfl
    have one := (outR.ok r hr).2.2.2
    have one : (1 : Rat) ≤ (r.2 : Rat) := by exact_mod_cast one
    have k := TC.key (lesF r.1 l) (by
      intro w
      rw [w] at g
      have g : (r.2 : Rat) ≤ 0 := g
      grind)
    rw [z] at k
    simp at k
  have inv : Inv (.s c rows) := by
    refine ⟨⟨_, by rw [cE]; exact TC⟩, by rw [cE]; exact capNe, by rw [cE, eE]; omega, by rw [cE]; omega, ⟨D2, E0, En, fun x hx => ?_⟩, fun x hx => ?_, fun x hx => ?_⟩
    · rw [cE] at hx
      rcases capK x hx with ⟨r, hr, z⟩ | z
      · rw [z]; exact Int.dvd_trans (outD r hr) Edv
      · rw [z]; exact El
    · rw [cE] at hx
      rcases capK x hx with ⟨r, hr, z⟩ | z
      · rw [z]; exact outH r hr
      · rw [z]; exact lH
    · rw [cE] at hx
      rcases capK x hx with ⟨r, hr, z⟩ | z
      · rw [z, step]
        have := outL r hr
        grind
      · rw [z]; exact lL
  refine ⟨inv, by rw [mE]; exact LT, by rw [mE]; exact T, by rw [mE]; omega, by rw [mE, lE]; exact IL, by rw [lE]; exact lZ, by rw [cE, mE, lE]; exact TC, fun u => ?_, fun t => ?_, fun t => ?_⟩
  · rw [M u]; rfl
  · rw [mE, lE]
    obtain ⟨l', fr, e, IL'⟩ := level_ok (t := t) LT c0 c1 (by omega) (by
      have := Nat.mul_le_mul_left (27700 + 600 + 3) (show out.length + 1 ≤ 13 by omega)
      omega)
    rw [IsLev.uniq LT c0 IL IL']
    exact ⟨fr, e⟩
  · rw [mE, lE, cE]
    exact (CP t).1
theorem all_inv : ∀ t : Tr, t.good → t.deep ≤ 4 → t.ends ≤ 12 → Inv t := by
  refine Tr.ind (fun w g _ _ => end_inv g.1 g.2) fun c rows ih g d e => ?_
  have n := (nst_le _ g).2
  have := Nat.mul_le_mul d e
  obtain ⟨c0, c1, l1, l4, gl⟩ := id g
  have gm := goodL_mem gl
  refine (stage_ok g (fun r hr => ?_) (by omega) d e).inv
  have a := deepL_mem r hr
  have b := endsL_mem r hr
  simp only [Tr.deep, Tr.ends] at d e
  exact ih r hr (gm r hr).2.2 (by omega) (by omega)
/-- a stand in bounds -/
structure Fine (t : Tr) : Prop where
  good : t.good
  deep : t.deep ≤ 4
  ends : t.ends ≤ 12
theorem Fine.inv {t : Tr} (h : Fine t) : Inv t := all_inv t h.good h.deep h.ends
theorem Fine.rows {t : Tr} (h : Fine t) : Rows 27700 600 t.caps := by
  have n := (nst_le _ h.good).2
  have := Nat.mul_le_mul h.deep h.ends
  exact h.inv.rows (by omega) h.deep
theorem Fine.sub {c : Int} {rows : TRs} (h : Fine (.s c rows)) {r : Int × Tr} (hr : r ∈ rows) : Fine r.2 := by
  obtain ⟨⟨c0, c1, l1, l4, gl⟩, d, e⟩ := h
  have a := deepL_mem r hr
  have b := endsL_mem r hr
  simp only [Tr.deep, Tr.ends] at d e
  exact ⟨(goodL_mem gl r hr).2.2, by omega, by omega⟩
theorem Fine.stage {c : Int} {rows : TRs} (h : Fine (.s c rows)) : StageOk c rows := by
  have n := (nst_le _ h.good).2
  have := Nat.mul_le_mul h.deep h.ends
  exact stage_ok h.good (fun r hr => (h.sub hr).inv) (by omega) h.deep h.ends
theorem Fine.lev {t : Tr} (h : Fine t) : Lo t.lev ∧ Pz 27700 t.lev := by
  cases t with
  | e w =>
    obtain ⟨g1, g2⟩ := h.good
    exact ⟨lo_one w, (pz_one (n := 40) (sz_of (b := 1000000000) (by omega) g2 (by decide))).mono (by omega)⟩
  | s c rows => exact ⟨h.stage.lev.lo, h.stage.levZ⟩
end Tb

/-! what the laws of stands draw: plain parts -/
namespace Tb
open PySem PySem.Spec PyProof.Rows L2 A LF DT
open Law (fr2 lowF)
/-! one, other = other, one % other -/
abbrev e2T : DT := dB (dBin fGt (dVar 3) (dC (.int (0))))
abbrev e2B : DS := dPar 2 3 (dCons (dVar 3) (dCons (dBin fMod (dVar 2) (dVar 3)) (dNil)))
theorem eu2_loop {x y : Option AV} : ∀ (n a b : Nat), b < n → ∃ z, whileN e2T e2B n [x, y, some (.v (.int a) false), some (.v (.int b) false)] [] = .nx [x, y, some (.v (.int (Nat.gcd a b)) false), z] [] := by
  intro n
  induction n with
  | zero => intro a b h; omega
  | succ n ih =>
    intro a b h
    by_cases hb : b = 0
    · subst hb
      refine ⟨_, (while_f ?_).trans (by rw [Nat.gcd_zero_right])⟩
      rfl
    · obtain ⟨z, e⟩ := ih b (a % b) (by have := Nat.mod_lt a (y := b) (by omega); omega)
      rw [Law.gcd_mod a b (by omega)] at e
      refine ⟨z, (while_t (S1 := [x, y, some (.v (.int b) false), some (.v (.int (a % b : Nat)) false)]) (st1 := []) ?_ ?_).trans e⟩
      · have : decide ((0 : Int) < (b : Int)) = true := decide_eq_true (by omega)
        refine dB_ok' (fr := false) (dBin_ok (dVar_ok rfl) dC_ok ?_)
        rw [fGt_ok, this]
      · have hf : (a : Int).fmod b = ((a % b : Nat) : Int) := by rw [Int.fmod_eq_emod_of_nonneg _ (by omega)]; rfl
        refine par_ok (dCons_ok (dVar_ok rfl) (dCons_ok (dBin_ok (dVar_ok rfl) (dVar_ok rfl) (fMod_ok (by omega))) dNil_ok)) |>.trans ?_
        rw [hf]
        rfl
/-- how many numbers a box takes at most -/
def popsF : Nat → Nat → Nat
  | 0, _ => 2
  | d + 1, m => max (2 + 1 * (1 + popsF d (m / 1))) (max (if 2 ≤ m then 2 + 2 * (1 + popsF d (m / 2)) else 0) (max (if 3 ≤ m then 2 + 3 * (1 + popsF d (m / 3)) else 0) (if 4 ≤ m then 2 + 4 * (1 + popsF d (m / 4)) else 0)))
theorem pops_step {d m k : Nat} (h1 : 1 ≤ k) (h4 : k ≤ 4) (hm : k ≤ m) : 2 + k * (1 + popsF d (m / k)) ≤ popsF (d + 1) m := by
  rw [popsF]
  have := Nat.le_max_left (2 + 1 * (1 + popsF d (m / 1))) (max (if 2 ≤ m then 2 + 2 * (1 + popsF d (m / 2)) else 0) (max (if 3 ≤ m then 2 + 3 * (1 + popsF d (m / 3)) else 0) (if 4 ≤ m then 2 + 4 * (1 + popsF d (m / 4)) else 0)))
  rcases (by omega : k = 1 ∨ k = 2 ∨ k = 3 ∨ k = 4) with z | z | z | z <;> subst z
  · exact this
  · rw [if_pos hm]; omega
  · rw [if_pos hm]; omega
  · rw [if_pos hm]; omega
theorem pops_two : ∀ d m, 2 ≤ popsF d m
  | 0, _ => Nat.le_refl _
  | d + 1, m => by rw [popsF]; omega
theorem pops_all : popsF 4 12 = 122 := by decide +kernel
/-- a box of at most so many stages on a way and so many ends -/
structure BoxOk (d m : Nat) (t : Tr) : Prop where
  good : t.good
  deep : t.deep ≤ d
  ends : t.ends ≤ m
theorem maxL_deep : ∀ {rows : TRs}, rows ≠ [] → maxL (rows.map fun r => (r.2.deep : Int)) = (deepL rows : Int) := by
  have f : ∀ (rows : TRs) (a : Nat), (rows.map fun r => (r.2.deep : Int)).foldl max (a : Int) = ((max a (deepL rows) : Nat) : Int) := fun rows => by
    induction rows with
    | nil => intro a; simp [deepL]
    | cons r rows ih =>
      obtain ⟨w, t⟩ := r
      intro a
      rw [List.map_cons, List.foldl_cons, show max (a : Int) (t.deep : Int) = ((max a t.deep : Nat) : Int) by omega, ih, deepL, Nat.max_assoc]
  intro rows ne
  cases rows with
  | nil => exact absurd rfl ne
  | cons r rows =>
    obtain ⟨w, t⟩ := r
    show ((rows.map fun r => (r.2.deep : Int)).foldl max (t.deep : Int)) = _
    rw [f, deepL]
theorem sum_ends : ∀ rows : TRs, (rows.map fun r => (r.2.ends : Int)).sum = (endsL rows : Int)
  | [] => rfl
  | (w, t) :: r => by
    rw [List.map_cons, List.sum_cons, sum_ends r, endsL]
    push_cast
    rfl
theorem sum_ws : ∀ rows : TRs, (rows.map fun r => r.1).sum = wsum rows
  | [] => rfl
  | r :: rs => by rw [List.map_cons, List.sum_cons, sum_ws rs, wsum]
/-- rows of a stage, told; as objects -/
def rowT (r : Int × Tr) : PV := .tup [.int r.1, r.2.told]
noncomputable def rowO (r : Int × Tr) : PV := .tup [.int r.1, r.2.obj]
theorem told_s (c : Int) (rows : TRs) : Tr.told (.s c rows) = .tup [.str "stage", .int c, .tup (rows.map rowT)] := by
  simp only [Tr.told]
  rw [toldL_eq]
  rfl
theorem told_e (w : Int) : Tr.told (.e w) = .tup [.str "end", .int w] := by simp only [Tr.told]
theorem obj_e (w : Int) : Tr.obj (.e w) = .obj true 0 [0] [.int w] := by simp only [Tr.obj]
theorem obj_s (c : Int) (rows : TRs) : Tr.obj (.s c rows) = .obj true 1 [1, 2, 3, 4] [.int c, .tup (rows.map rowO), fr2 (Tr.lev (.s c rows)), .lst true ((Tr.caps (.s c rows)).map rowE)] := by
  simp only [Tr.obj]
  rw [objL_eq]
  rfl
theorem fr2_nb (p : Sh) : noBor (fr2 p) = true := rfl
theorem obj_nb : ∀ t : Tr, noBor t.obj = true := by
  refine Tr.ind (fun w => by rw [obj_e]; rfl) fun c rows ih => ?_
  rw [obj_s]
  have a : noBors (rows.map rowO) = true := noBors_map fun r hr => by
    show (noBor (.int r.1) && (noBor r.2.obj && true)) = true
    rw [ih r hr]; rfl
  have b : noBors ((Tr.caps (.s c rows)).map rowE) = true := noBors_map fun r _ => rfl
  show (true && (noBor (.int c) && (noBors (rows.map rowO) && (noBor (fr2 _) && ((true && noBors ((Tr.caps (.s c rows)).map rowE)) && true))))) = true
  rw [a, b]
  rfl
/-! what one has beside a level -/
def grF (p q : Sh) : Sh := bif decide (p.1 * q.2 < q.1 * p.2) then q else p
mutual
def besF : Tr → Sh → Sh
  | .e w, l => grF l (w, 1)
  | .s c rows, l => grF l (besL (wsum rows) rows l (0 - c, 1))
def besL (W : Int) : TRs → Sh → Sh → Sh
  | [], _, acc => acc
  | (w, t) :: r, l, acc => besL W r l (plusF acc (timesF (lowF w W) (besF t l)))
end
theorem besL_snoc (W : Int) (r : Int × Tr) (l : Sh) : ∀ (rs : TRs) (acc : Sh), besL W (rs ++ [r]) l acc = plusF (besL W rs l acc) (timesF (lowF r.1 W) (besF r.2 l))
  | [], acc => by
    obtain ⟨w, t⟩ := r
    simp only [List.nil_append, besL]
  | (w, t) :: rs, acc => by simp only [List.cons_append, besL, besL_snoc W r l rs]
mutual
def besZ (L : Nat) : Tr → Nat
  | .e _ => L + 40
  | .s _ rows => L + 40 + besZL L rows
def besZL (L : Nat) : TRs → Nat
  | [] => 0
  | (_, t) :: r => besZ L t + 20 + besZL L r
end
theorem besZL_app (L : Nat) (b : TRs) : ∀ a : TRs, besZL L (a ++ b) = besZL L a + besZL L b
  | [] => by simp [besZL]
  | (w, t) :: a => by simp only [List.cons_append, besZL, besZL_app L b a]; omega
theorem besZ_le (L : Nat) : ∀ t : Tr, t.good → besZ L t ≤ (L + 120) * (t.ends + t.nst) := by
  refine Tr.ind (fun w _ => by simp [besZ, Tr.ends, Tr.nst]) fun c rows ih g => ?_
  obtain ⟨_, _, _, l4, g⟩ := g
  have gm := goodL_mem g
  have A : ∀ rs : TRs, (∀ r ∈ rs, besZ L r.2 ≤ (L + 120) * (r.2.ends + r.2.nst)) → besZL L rs ≤ (L + 120) * (endsL rs + nstL rs) + 20 * rs.length := fun rs => by
    induction rs with
    | nil => intro _; simp [besZL]
    | cons r rs ih =>
      obtain ⟨w, t⟩ := r
      intro h
      have a := ih fun q hq => h q (List.mem_cons_of_mem _ hq)
      have b : besZ L t ≤ (L + 120) * (t.ends + t.nst) := h (w, t) List.mem_cons_self
      simp only [besZL, endsL, nstL, List.length_cons]
      rw [show t.ends + endsL rs + (t.nst + nstL rs) = (t.ends + t.nst) + (endsL rs + nstL rs) by omega, Nat.mul_add]
      omega
  have := A rows fun r hr => ih r hr (gm r hr).2.2
  simp only [besZ, Tr.ends, Tr.nst]
  rw [show endsL rows + (1 + nstL rows) = (endsL rows + nstL rows) + 1 by omega, Nat.mul_add (L + 120) (endsL rows + nstL rows) 1]
  omega
theorem grF_pz {n : Nat} {p q : Sh} (h : Pz n p) (k : Pz n q) : Pz n (grF p q) := by
  unfold grF
  cases decide (p.1 * q.2 < q.1 * p.2) <;> assumption
theorem wsum_pos {rows : TRs} (l : 1 ≤ rows.length) (h : ∀ r ∈ rows, 1 ≤ r.1 ∧ r.1 ≤ 1000) (l4 : rows.length ≤ 4) : 0 < wsum rows ∧ Sz 13 (wsum rows) := by
  obtain ⟨a, b, c⟩ := wsum_le h
  exact ⟨by omega, sz_of (b := 4000) (by omega) (by omega) (by decide)⟩
/-- the sums on the way, and their sizes -/
theorem bes_pz {L : Nat} {l : Sh} (hl : Pz L l) : ∀ t : Tr, t.good → Pz (besZ L t) (besF t l) := by
  refine Tr.ind (fun w g => ?_) fun c rows ih g => ?_
  · simp only [besF, besZ]
    exact grF_pz (hl.mono (by omega)) ((pz_one (n := 39) (sz_of (b := 1000000000) (by have := g.1; omega) g.2 (by decide))).mono (by omega))
  · obtain ⟨c0, c1, l1, l4, g⟩ := g
    have gm := goodL_mem g
    obtain ⟨w0, wz⟩ := wsum_pos l1 (fun r hr => ⟨(gm r hr).1, (gm r hr).2.1⟩) l4
    have A : ∀ (rs : TRs) (acc : Sh) (n : Nat), (∀ r ∈ rs, r ∈ rows) → Pz n acc → Pz (n + besZL L rs) (besL (wsum rows) rs l acc) := fun rs => by
      induction rs with
      | nil => intro acc n _ h; simp only [besL, besZL]; exact h
      | cons r rs ih2 =>
        obtain ⟨w, t⟩ := r
        intro acc n sub h
        have hr := sub (w, t) List.mem_cons_self
        obtain ⟨a, b, gt⟩ := gm _ hr
        have lz := (low_pz (n := 13) (t := w) (b := wsum rows) (sz_of (b := 1000) (by have a : 1 ≤ w := a; omega) b (by decide)) wz w0).1
        have m : Pz (13 + besZ L t) (timesF (lowF w (wsum rows)) (besF t l)) := lz.times (ih _ hr gt)
        have p := h.plus m
        have := ih2 (plusF acc (timesF (lowF w (wsum rows)) (besF t l))) (n + (besZ L t + 20)) (fun q hq => sub q (List.mem_cons_of_mem _ hq)) (p.mono (by omega))
        simp only [besL, besZL]
        exact this.mono (by omega)
    have z := A rows (0 - c, 1) 40 (fun r hr => hr) ((pz_one (n := 39) (sz_of (b := 1000000000) (by omega) (by omega) (by decide))).mono (by omega))
    simp only [besF, besZ]
    exact grF_pz (hl.mono (by omega)) (z.mono (by omega))
theorem besL_pz {L : Nat} {l : Sh} (hl : Pz L l) {rows : TRs} {c : Int} (g : (Tr.s c rows).good) : ∀ (done todo : TRs), done ++ todo = rows → Pz (40 + besZL L done) (besL (wsum rows) done l (0 - c, 1)) := by
  intro done
  obtain ⟨c0, c1, l1, l4, gl⟩ := g
  have gm := goodL_mem gl
  obtain ⟨w0, wz⟩ := wsum_pos l1 (fun r hr => ⟨(gm r hr).1, (gm r hr).2.1⟩) l4
  refine rev_ind (P := fun done => ∀ todo, done ++ todo = rows → Pz (40 + besZL L done) (besL (wsum rows) done l (0 - c, 1))) ?_ ?_ done
  · intro _ _
    simp only [besL, besZL]
    exact (pz_one (n := 39) (sz_of (b := 1000000000) (by omega) (by omega) (by decide))).mono (by omega)
  · intro done r ih todo e
    have hr : r ∈ rows := by rw [← e]; simp
    obtain ⟨a, b, gt⟩ := gm _ hr
    have lz := (low_pz (n := 13) (t := r.1) (b := wsum rows) (sz_of (b := 1000) (by omega) b (by decide)) wz w0).1
    have i := ih (r :: todo) (by rw [← e, List.append_assoc]; rfl)
    rw [besL_snoc, besZL_app]
    refine (i.plus (lz.times (bes_pz hl r.2 gt))).mono ?_
    obtain ⟨w, t⟩ := r
    simp only [besZL]
    omega
theorem besZL_mem (L : Nat) : ∀ {rows : TRs}, ∀ r ∈ rows, besZ L r.2 ≤ besZL L rows
  | [], _, h => absurd h List.not_mem_nil
  | (w, t) :: rs, r, h => by
    simp only [besZL]
    rcases List.mem_cons.mp h with z | z
    · rw [z]; show besZ L t ≤ _; omega
    · have := besZL_mem L r z
      omega
end Tb

/-! dicts whose keys are numbers, mirrored as dicts of shares with the bottom 1; tables of whole worths -/
namespace Tb
open PySem PySem.Spec PyProof.Rows L2 A LF DT
open Law (fr2)
def dcI (d : Dc Int) : List (Key × AV) := d.map fun e => (.inl e.1.1, .v (.int e.2) false)
def One (d : Dc Int) : Prop := ∀ e ∈ d, e.1.2 = 1
theorem One.tail {e : Sh × Int} {d : Dc Int} (h : One (e :: d)) : One d := fun x hx => h x (List.mem_cons_of_mem _ hx)
theorem one_key {e : Sh} (h : e.2 = 1) (w : Int) : decide ((Sum.inl e.1 : Key) = .inl w) = decide (e = (w, 1)) := by
  obtain ⟨a, b⟩ := e
  obtain rfl : b = 1 := h
  by_cases q : a = w
  · subst q; simp
  · have : ¬ (Sum.inl a : Key) = .inl w := fun z => q (Sum.inl.inj z)
    have : ¬ (a, (1 : Int)) = (w, 1) := fun z => q (congrArg Prod.fst z)
    simp_all
theorem dcI_any (w : Int) : ∀ {d : Dc Int}, One d → ((dcI d).any fun kv => decide (kv.1 = .inl w)) = d.any fun e => decide (e.1 = (w, 1))
  | [], _ => rfl
  | e :: d, h => by
    have := dcI_any w h.tail
    show (decide ((Sum.inl e.1.1 : Key) = .inl w) || _) = _
    rw [List.any_cons, one_key (h e List.mem_cons_self)]
    exact congrArg _ this
theorem dcI_get (w : Int) : ∀ {d : Dc Int}, One d → getKA (dcI d) (.inl w) = (dcGet d (w, 1)).map fun s => .v (.int s) false
  | [], _ => rfl
  | e :: d, h => by
    have ih := dcI_get w h.tail
    have k := one_key (h e List.mem_cons_self) w
    unfold getKA dcGet at ih ⊢
    show ((((Sum.inl e.1.1 : Key), AV.v (.int e.2) false) :: dcI d).find? fun kv => decide (kv.1 = .inl w)).map (·.2) = _
    rw [List.find?_cons, List.find?_cons]
    simp only [k]
    cases decide (e.1 = (w, 1)) with
    | true => rfl
    | false => exact ih
theorem dcI_put (w s : Int) {d : Dc Int} (h : One d) : putKA (dcI d) (.inl w) (.v (.int s) false) = dcI (dcPut d (w, 1) s) := by
  unfold putKA dcPut
  rw [dcI_any w h]
  split
  · unfold dcI
    rw [List.map_map, List.map_map]
    refine List.map_congr_left fun e he => ?_
    have k := one_key (h e he) w
    simp only [Function.comp_def]
    by_cases q : e.1 = (w, 1)
    · rw [if_pos q, if_pos (by rw [q])]
    · rw [if_neg q, if_neg]
      intro z
      rw [decide_eq_true z, decide_eq_false q] at k
      cases k
  · unfold dcI
    rw [List.map_append]
    rfl
theorem One.put {d : Dc Int} (h : One d) (w s : Int) : One (dcPut d (w, 1) s) := fun e he => by
  rcases mem_put he with z | ⟨z, _⟩
  · rw [z]
  · exact h e z
theorem keyInts_dcI : ∀ d : Dc Int, keyInts (dcI d) = some (d.map (·.1.1))
  | [] => rfl
  | e :: d => by
    show (keyInts (dcI d)).map (e.1.1 :: ·) = _
    rw [keyInts_dcI d]
    rfl
section
variable {d : Dc Int} {S S' : Slots} {st st1 st2 : Store} {n : Nat} {w s z : Int} {f g : Bool}
theorem kget_ok {de dk dx : DE} (h : One d) (h1 : de S st = .ok (.ref n) st) (h2 : rdAtK st n = some (dcI d)) (h3 : dk S st = .ok (.v (.int w) f) st) (h4 : dx S st = .ok (.v (.int z) false) st) : dKGet de dk dx S st = .ok (.v (.int ((dcGet d (w, 1)).getD z)) false) st := by
  have e1 : isDctK st (.ref n) = true := by
    show (rdAtK st n).isSome = true
    rw [h2]; rfl
  unfold dKGet
  rw [h1]
  show (bif isDctK st (.ref n) then (dk S st).then fun y st2 => (dx S st2).then fun z st3 => fKGet (.ref n) y z st3 else .bad) = _
  rw [e1, h3]
  show ((dx S st).then _) = _
  rw [h4]
  show fKGet (.ref n) (.v (.int w) f) (.v (.int z) false) st = _
  unfold fKGet
  simp only [keyA, keyP, h2, dcI_get w h]
  cases dcGet d (w, 1) <;> rfl
theorem kix_ok {de dk : DE} (h : One d) (h1 : de S st = .ok (.ref n) st) (h2 : rdAtK st n = some (dcI d)) (h3 : dk S st = .ok (.v (.int w) f) st) (h4 : dcGet d (w, 1) = some s) : dKIx de dk S st = .ok (.v (.int s) false) st := by
  unfold dKIx
  rw [h1]
  show ((dk S st).then _) = _
  rw [h3]
  show fKIx (.ref n) (.v (.int w) f) st = _
  unfold fKIx
  simp only [keyA, keyP, h2, dcI_get w h, h4]
  rfl
theorem kput_ok {dv de dk : DE} (h : One d) (h1 : de S st = .ok (.ref n) st) (h2 : dctAtK st n = some (dcI d)) (h3 : dv S st = .ok (.v (.int s) g) st) (h4 : dk S st = .ok (.v (.int w) f) st) (l : d.length < 1000000) : dKPut dv de dk S st = .nx S (st.set n (.dK (dcI (dcPut d (w, 1) s)))) := by
  have lb : Nat.blt (dcI d).length 1000000 = true := Nat.ble_eq.mpr (by simp [dcI]; omega)
  have e : fKPut (.ref n) (.v (.int w) f) (.v (.int s) g) st = some (st.set n (.dK (dcI (dcPut d (w, 1) s)))) := by
    unfold fKPut
    simp only [keyA, keyP, h2, lb, cond_true, A.strip, dcI_put w s h]
  unfold dKPut
  rw [h3]
  show ((de S st).flow S _) = _
  rw [h1]
  show ((dk S st).flow S _) = _
  rw [h4]
  show (match fKPut (.ref n) (.v (.int w) f) (.v (.int s) g) st with
    | some st4 => A.Flow.nx S st4
    | none => .bad) = _
  rw [e]
theorem lockK_ok {i : Nat} {dl : DS} {st' : Store} {kvs kvs' : List (Key × AV)} (h1 : S[i]? = some (some (.ref n))) (h2 : dctAtK st n = some kvs) (h3 : dl S (st.set n (.lkK kvs)) = .nx S' st') (h4 : lkAtK st' n = some kvs') : dLockK i dl S st = .nx S' (st'.set n (.dK kvs')) := by
  unfold dLockK
  simp only [h1, h2, h3, h4]
theorem keysK_ok {de : DE} (h1 : de S st = .ok (.ref n) st) (h2 : lkAtK st n = some (dcI d)) : dKeysK de S st = .ok ((d.map (·.1)).map fun p => .v (.int p.1) false) st := by
  unfold dKeysK
  rw [h1]
  show (match lkAtK st n with
    | some kvs => Res.ok (kvs.map fun (kv : Key × AV) => AV.v (keyPV kv.1) false) st
    | none => .bad) = _
  rw [h2]
  show Res.ok _ st = _
  unfold dcI
  rw [List.map_map, List.map_map]
  rfl
theorem sortK_ok {da : DA} (h1 : da S st = .ok [.ref n] st) (h2 : rdAtK st n = some (dcI d)) (l : d.length < 64) : dB1 (fSortedDK false) da S st = .ok (.v (.lst true ((sortI (d.map (·.1.1))).map PV.int)) true) st := by
  refine dB1_ok h1 ?_
  unfold fSortedDK
  simp only [h2, keyInts_dcI]
  have : Nat.blt (d.map (·.1.1)).length 64 = true := Nat.ble_eq.mpr (by rw [List.length_map]; omega)
  rw [this]
  show newL false _ st = _
  exact newL_false (toPs_map PV.int false _)
end
/-! rows of a whole worth and a weight -/
abbrev IRow := Int × Int
def irE (r : IRow) : PV := .tup [.int r.1, .int r.2]
def toT (r : IRow) : TRow := ((r.1, 1), r.2)
/-- a table of whole worths: its rows as the law writes them -/
def ofT (r : TRow) : IRow := (r.1.1, r.2)
abbrev KP : Nat := 40
theorem int_pz {w : Int} (h0 : 0 ≤ w) (h : w ≤ 1000000000) : Pz 31 (w, 1) := pz_one (n := 30) (sz_of (b := 1000000000) (by omega) h (by decide))
theorem w_sz {c : Int} (h0 : 1 ≤ c) (h : c ≤ 1000) : Sz 10 c := sz_of (b := 1000) (by omega) h (by decide)
/-- rows of an offer: worths to 10 ** 9, weights to 1000 -/
structure IRows (rs : List IRow) : Prop where
  ok : ∀ r ∈ rs, 0 ≤ r.1 ∧ r.1 ≤ 1000000000 ∧ 1 ≤ r.2 ∧ r.2 ≤ 1000
theorem IRows.hk {rs : List IRow} (h : IRows rs) : ∀ e ∈ rs.map toT, Lo e.1 ∧ Pz 31 e.1 ∧ Sz 10 e.2 ∧ 1 ≤ e.2 := fun e he => by
  obtain ⟨r, hr, rfl⟩ := List.mem_map.mp he
  obtain ⟨a, b, c, d⟩ := h.ok r hr
  exact ⟨lo_one _, int_pz a b, w_sz c d, c⟩
theorem upI {d : Dc Int} (h : One d) (nd : (d.map (·.1)).Nodup) : ((sortI (d.map (·.1.1))).map fun w => ((w, 1) : Sh)).Pairwise (fun p q => val p < val q) ∧ ∀ k : Sh, k ∈ (sortI (d.map (·.1.1))).map (fun w => ((w, 1) : Sh)) ↔ k ∈ d.map (·.1) := by
  have pm := sortI_perm (d.map (·.1.1))
  have so := sortI_sorted (d.map (·.1.1))
  have nd2 : (d.map (·.1.1)).Nodup := by
    have e : d.map (·.1.1) = (d.map (·.1)).map (·.1) := by rw [List.map_map]; rfl
    rw [e]
    refine List.Pairwise.map _ (fun a b z => z) (List.Pairwise.imp_of_mem (fun {a b} ha hb z => ?_) nd)
    intro q
    obtain ⟨x, hx, rfl⟩ := List.mem_map.mp ha
    obtain ⟨y, hy, rfl⟩ := List.mem_map.mp hb
    exact z (Prod.ext q ((h x hx).trans (h y hy).symm))
  have nd3 : (sortI (d.map (·.1.1))).Nodup := pm.nodup_iff.mpr nd2
  have lt : (sortI (d.map (·.1.1))).Pairwise (· < ·) := by
    have := List.Pairwise.and so nd3
    exact this.imp fun {a b} z => by
      have := z.1
      have := z.2
      omega
  refine ⟨List.Pairwise.map _ (fun a b z => ?_) lt, fun k => ⟨fun hk => ?_, fun hk => ?_⟩⟩
  · rw [val_one, val_one]
    exact_mod_cast z
  · obtain ⟨w, hw, rfl⟩ := List.mem_map.mp hk
    obtain ⟨e, he, rfl⟩ := List.mem_map.mp (pm.mem_iff.mp hw)
    exact List.mem_map.mpr ⟨e, he, Prod.ext rfl (h e he)⟩
  · obtain ⟨e, he, rfl⟩ := List.mem_map.mp hk
    exact List.mem_map.mpr ⟨e.1.1, pm.mem_iff.mpr (List.mem_map.mpr ⟨e, he, rfl⟩), Prod.ext rfl (h e he).symm⟩
/-- the loop that adds the weights up; sh: the slots by the worth and the weight -/
theorem isums {i j : Nat} {rs : List IRow} (R : IRows rs) (l : rs.length ≤ 900000) (sh : Option AV → Option AV → Slots)
    (g1 : ∀ x y a b f, gU 2 (gC (gN i) (gC (gN j) (gE))) (.v (.tup [a, b]) f) (sh x y) = some (sh (some (.v a false)) (some (.v b false)))) (s1 : ∀ x y, (sh x y)[1]? = some (some (.ref 0))) (si : ∀ x y, (sh x y)[i]? = some x) (sj : ∀ x y, (sh x y)[j]? = some y) :
    ∃ S' st', forL (gU 2 (gC (gN i) (gC (gN j) (gE)))) (dKPut (dBin (fAdd false) (dKGet (dVar 1) (dVar i) (dC (.int (0)))) (dVar j)) (dVar 1) (dVar i)) (rs.map fun r => .v (irE r) false) (sh none none) [.dK []] = .nx S' st' ∧ ∃ x y d, S' = sh x y ∧ st' = [.dK (dcI d)] ∧ One d ∧ IntsOk 31 10 (rs.map toT) d := by
  refine forL_all (tg := gU 2 (gC (gN i) (gC (gN j) (gE)))) (b := dKPut (dBin (fAdd false) (dKGet (dVar 1) (dVar i) (dC (.int (0)))) (dVar j)) (dVar 1) (dVar i)) (fun r => AV.v (irE r) false) (fun done _ S st => ∃ x y d, S = sh x y ∧ st = [.dK (dcI d)] ∧ One d ∧ IntsOk 31 10 (done.map toT) d) rs _ _ ⟨none, none, [], rfl, rfl, (fun e he => absurd he List.not_mem_nil), ⟨by simp, fun e he => absurd he List.not_mem_nil, fun e he => absurd he List.not_mem_nil, by simp, fun k => by
    show ((0 : Int) : Rat) = 0
    push_cast
    rfl⟩⟩ ?_
  rintro done r todo S st hd ⟨x, y, d, rfl, rfl, one, I⟩
  refine ⟨_, g1 x y _ _ _, ?_⟩
  obtain ⟨h1, h2, h3, h4⟩ := R.hk (toT r) (List.mem_map.mpr ⟨r, by rw [← hd]; simp, rfl⟩)
  obtain ⟨_, n2, n3, _⟩ := len_step hd 1
  have il := I.len
  rw [List.length_map] at il
  have e := kput_ok (S := sh (some (.v (.int r.1) false)) (some (.v (.int r.2) false))) (st := [.dK (dcI d)]) (de := dVar 1) (dk := dVar i) (dv := dBin (fAdd false) (dKGet (dVar 1) (dVar i) (dC (.int (0)))) (dVar j)) (n := 0) (d := d) one (dVar_ok (s1 _ _)) rfl (dBin_ok (kget_ok one (dVar_ok (s1 _ _)) rfl (dVar_ok (si _ _)) dC_ok) (dVar_ok (sj _ _)) fAdd_ok) (dVar_ok (si _ _)) (by omega)
  unfold Wp
  rw [e]
  refine ⟨_, _, dcPut d (r.1, 1) ((dcGet d (r.1, 1)).getD 0 + r.2), rfl, rfl, one.put _ _, ?_⟩
  rw [List.map_append]
  exact I.add h1 h2 h3 h4
/-- the loop for the common divisor -/
theorem icom {i b : Nat} {d : Dc Int} (one : One d) (nd : (d.map (·.1)).Nodup) (sh : Option AV → Int → Slots) (g1 : ∀ x q w, gN i (.v (.int w) false) (sh x q) = some (sh (some (.v (.int w) false)) q)) (s1 : ∀ x q, (sh x q)[1]? = some (some (.ref 0))) (si : ∀ x q, (sh x q)[i]? = some x) (sb : ∀ x q, (sh x q)[b]? = some (some (.v (.int q) false))) (set : ∀ x q r, (sh x q).set b (some (.v (.int r) false)) = sh x r) (x0 : Option AV) :
    ∃ S' st', forL (gN i) (dSet b (dCall 2 g__law_common (dCons (dVar b) (dCons (dKIx (dVar 1) (dVar i)) (dNil))))) ((d.map (·.1)).map fun p => .v (.int p.1) false) (sh x0 0) [.lkK (dcI d)] = .nx S' st' ∧ ∃ x q, S' = sh x q ∧ st' = [.lkK (dcI d)] ∧ (∀ k ∈ d.map (·.1), q ∣ gi d k) ∧ (∀ c : Int, (∀ k ∈ d.map (·.1), c ∣ gi d k) → c ∣ q) ∧ 0 ≤ q := by
  refine forL_all (tg := gN i) (b := dSet b (dCall 2 g__law_common (dCons (dVar b) (dCons (dKIx (dVar 1) (dVar i)) (dNil))))) (fun p => AV.v (.int p.1) false) (fun done _ S st => ∃ x q, S = sh x q ∧ st = [.lkK (dcI d)] ∧ (∀ k ∈ done, q ∣ gi d k) ∧ (∀ c : Int, (∀ k ∈ done, c ∣ gi d k) → c ∣ q) ∧ 0 ≤ q) (d.map (·.1)) _ _ ⟨x0, 0, rfl, rfl, fun e he => absurd he List.not_mem_nil, fun c _ => Int.dvd_zero c, Int.le_refl 0⟩ ?_
  rintro done v todo S st hd ⟨x, q, rfl, rfl, i1, i2, i3⟩
  refine ⟨_, g1 x q _, ?_⟩
  obtain ⟨e, he, ev⟩ := List.mem_map.mp (show v ∈ d.map (·.1) by rw [← hd]; simp)
  have v1 : v = (v.1, 1) := by
    rw [← ev]
    exact Prod.ext rfl (one e he)
  have g : dcGet d (v.1, 1) = some (gi d v) := by
    rw [← v1]
    unfold gi
    rw [← ev, dcGet_of nd he]
    rfl
  have e1 : dSet b (dCall 2 g__law_common (dCons (dVar b) (dCons (dKIx (dVar 1) (dVar i)) (dNil)))) (sh (some (.v (.int v.1) false)) q) [.lkK (dcI d)] = .nx (sh (some (.v (.int v.1) false)) (Int.gcd q (gi d v))) [.lkK (dcI d)] := by
    rw [dSet_ok (dArg_ok (dCons_ok (dVar_ok (sb _ _)) (dCons_ok (kix_ok (n := 0) one (dVar_ok (s1 _ _)) rfl (dVar_ok (si _ _)) g) dNil_ok)) rfl (cP2 com_ok)), set]
  unfold Wp
  rw [e1]
  refine ⟨_, _, rfl, rfl, fun x hx => ?_, fun c hc => ?_, by omega⟩
  · rcases List.mem_append.mp hx with z | z
    · exact Int.dvd_trans (Int.gcd_dvd_left ..) (i1 x z)
    · rw [List.mem_singleton.mp z]; exact Int.gcd_dvd_right ..
  · exact Int.dvd_coe_gcd (i2 c fun x hx => hc x (List.mem_append_left _ hx)) (hc v (by simp))
/-- the table that the law writes: rows T of a table of whole worths -/
theorem itab {rs : List IRow} {d : Dc Int} {q : Int} (R : IRows rs) (one : One d) (I : IntsOk 31 10 (rs.map toT) d) (b1 : ∀ k ∈ d.map (·.1), q ∣ gi d k) (b2 : ∀ c : Int, (∀ k ∈ d.map (·.1), c ∣ gi d k) → c ∣ q) (b3 : 0 ≤ q) :
    ∃ T : List TRow, T = (sortI (d.map (·.1.1))).map (fun w => (((w, 1) : Sh), (gi d (w, 1)).fdiv q)) ∧ IsTab T (meas (ivals (rs.map toT))) ∧ T.length ≤ rs.length ∧ (∀ r ∈ T, r.1.2 = 1 ∧ 0 ≤ r.1.1 ∧ r.1.1 ≤ 1000000000 ∧ 1 ≤ r.2 ∧ Sz (10 + rs.length) r.2) ∧ ∀ w ∈ sortI (d.map (·.1.1)), dcGet d (w, 1) = some (gi d (w, 1)) ∧ q ≠ 0 := by
  obtain ⟨up, mem⟩ := upI one I.nd
  obtain ⟨T, T2⟩ := itab_of (m := meas (ivals (rs.map toT))) (fun e he => ⟨(I.key e he).1, (I.vl e he).2⟩) I.nd b1 b2 b3 up mem I.ms
  have len : (sortI (d.map (·.1.1))).length = d.length := by rw [(sortI_perm _).length_eq, List.length_map]
  have il := I.len
  rw [List.length_map] at il
  rw [List.map_map] at T
  refine ⟨_, rfl, T, by rw [List.length_map]; omega, fun r hr => ?_, fun w hw => ?_⟩
  · obtain ⟨w, hw, rfl⟩ := List.mem_map.mp hr
    obtain ⟨g, b0, dv, e, he, ek, ge⟩ := T2 (w, 1) (List.mem_map.mpr ⟨w, hw, rfl⟩)
    obtain ⟨k1, k2, k3⟩ := I.key e he
    rw [ek, List.map_map] at k3
    obtain ⟨r0, h0, e0⟩ := List.mem_map.mp k3
    have e0 : r0.1 = w := congrArg Prod.fst e0
    obtain ⟨a1, a2, a3, a4⟩ := R.ok r0 h0
    refine ⟨rfl, by show 0 ≤ w; omega, by show w ≤ _; omega, T.pos _ hr, ?_⟩
    show Sz _ ((gi d (w, 1)).fdiv q)
    have s := (I.vl e he).1
    rw [ge, List.length_map] at s
    refine s.of_le ?_
    obtain ⟨c, hc⟩ := dv
    rw [hc, Int.mul_fdiv_cancel_left _ b0]
    exact abs_le_mul b0
  · obtain ⟨g, b0, _⟩ := T2 (w, 1) (List.mem_map.mpr ⟨w, hw, rfl⟩)
    exact ⟨g, b0⟩
end Tb

namespace Law
open PySem PySem.Spec PyProof.Rows L2 A
open Tb (f_divisor f_share f_whole f_plus f_common_bottom f_told_form f__law_cell f__law_mix f__law_common g_divisor g_divisor_eq g_share g_share_eq g_plus g_plus_eq g__law_common g__law_common_eq)
def tl : List (Ty × Ty × Bool) := [(.b "NoneType", .o 3, false), (.b "NoneType", .o 5, false), (.b "NoneType", .o 19, false), (.b "NoneType", .o 11, false), (.b "NoneType", .o 16, false), (.b "NoneType", .o 22, false), (.b "NoneType", .o 20, false), (.b "NoneType", .o 10, false), (.b "NoneType", .o 21, false), (.b "NoneType", .o 23, false), (.b "NoneType", .o 17, false), (.b "bool", .o 3, false), (.b "bool", .o 5, false), (.b "bool", .o 19, false), (.b "bool", .o 11, false), (.b "bool", .o 16, false), (.b "bool", .o 22, false), (.b "bool", .o 20, false), (.b "bool", .o 10, false), (.b "bool", .o 21, false), (.b "bool", .o 23, false), (.b "bool", .o 17, false), (.b "int", .o 3, false), (.b "int", .o 5, false), (.b "int", .o 19, false), (.b "int", .o 11, false), (.b "int", .o 16, false), (.b "int", .o 22, false), (.b "int", .o 20, false), (.b "int", .o 10, false), (.b "int", .o 21, false), (.b "int", .o 23, false), (.b "int", .o 17, false), (.b "str", .o 3, false), (.b "str", .o 5, false), (.b "str", .o 19, false), (.b "str", .o 11, false), (.b "str", .o 16, false), (.b "str", .o 22, false), (.b "str", .o 20, false), (.b "str", .o 10, false), (.b "str", .o 21, false), (.b "str", .o 23, false), (.b "str", .o 17, false), (.b "tuple", .o 3, false), (.b "tuple", .o 5, false), (.b "tuple", .o 19, false), (.b "tuple", .o 11, false), (.b "tuple", .o 16, false), (.b "tuple", .o 22, false), (.b "tuple", .o 20, false), (.b "tuple", .o 10, false), (.b "tuple", .o 21, false), (.b "tuple", .o 23, false), (.b "tuple", .o 17, false), (.b "list", .o 3, false), (.b "list", .o 5, false), (.b "list", .o 19, false), (.b "list", .o 11, false), (.b "list", .o 16, false), (.b "list", .o 22, false), (.b "list", .o 20, false), (.b "list", .o 10, false), (.b "list", .o 21, false), (.b "list", .o 23, false), (.b "list", .o 17, false), (.b "dict", .o 3, false), (.b "dict", .o 5, false), (.b "dict", .o 19, false), (.b "dict", .o 11, false), (.b "dict", .o 16, false), (.b "dict", .o 22, false), (.b "dict", .o 20, false), (.b "dict", .o 10, false), (.b "dict", .o 21, false), (.b "dict", .o 23, false), (.b "dict", .o 17, false), (.x 21, .o 3, false), (.x 21, .o 5, false), (.x 21, .o 19, false), (.x 21, .o 11, false), (.x 21, .o 16, false), (.x 21, .o 22, false), (.x 21, .o 20, false), (.x 21, .o 10, false), (.x 21, .o 21, true), (.x 21, .o 23, false), (.x 21, .o 17, false), (.x 21, .b "ValueError", true), (.x 21, .b "bool", false), (.x 21, .b "int", false), (.x 21, .b "list", false), (.x 21, .b "tuple", false)]
def tb : Ty → Ty → Option Bool := tbOf tl
theorem tb_b (x y : String) : tb (.b x) (.b y) = kitB x y := rfl
def cs : List Ty := [.x 21]
def xl : List (Nat × Nat) := [(21, 24)]
/-- is_whole(thing, low, high) -/
def d_is_whole : DS :=
  dRet (dAndV (dB1 (fIsi tb cs) (dCons (dVar 0) (dCons (dC (.ty "int")) (dNil)))) (dAndV (dNotV (dB1 (fIsi tb cs) (dCons (dVar 0) (dCons (dC (.ty "bool")) (dNil))))) (dChain fLe fLe (dVar 1) (dVar 0) (dVar 2))))
def f_is_whole : PDen := runP 3 d_is_whole
/-- is_row(row) -/
def d_is_row : DS :=
  dSeq (dIf (dOr (dNot (dB (dB1 (fIsi tb cs) (dCons (dVar 0) (dCons (dC (.ty "tuple")) (dNil)))))) (dB (dBin (fEq true) (dB1 fLen (dCons (dVar 0) (dNil))) (dC (.int (2)))))) (dRet (dC (.bl false))) (dNext))
  (dRet (dAndV (dCall 3 f_is_whole (dCons (dBin fIx (dVar 0) (dC (.int (0)))) (dCons (dC (.int (0))) (dCons (dC (.int (1000000000))) (dNil))))) (dCall 3 f_is_whole (dCons (dBin fIx (dVar 0) (dC (.int (1)))) (dCons (dC (.int (1))) (dCons (dC (.int (1000))) (dNil)))))))
def f_is_row : PDen := runP 1 d_is_row
/-- table_of(rows) -/
def d_table_of : DS :=
  dSeq (dIf (dOr (dNot (dB (dB1 (fIsi tb cs) (dCons (dVar 0) (dCons (dC (.ty "list")) (dNil)))))) (dNot (dB (dChain fLe fLe (dC (.int (1))) (dB1 fLen (dCons (dVar 0) (dNil))) (dC (.int (8))))))) (dRaise 21) (dNext))
  (dSeq (dForE (dVar 0) (gN 1) (dIf (dNot (dB (dCall 1 f_is_row (dCons (dVar 1) (dNil))))) (dRaise 21) (dNext)))
  (dRet (dCall 1 f_told_form (dCons (dCompE false ([2, 3]) (dVar 0) (gU 2 (gC (gN 2) (gC (gN 3) (gE)))) (dYes) (dTup (dCons (dCall 1 f_whole (dCons (dVar 2) (dNil))) (dCons (dCall 1 f_whole (dCons (dVar 3) (dNil))) (dNil))))) (dNil)))))
def f_table_of : PDen := runP 4 d_table_of
/-- _law_whole(_law_found) -/
def d__law_whole : DS :=
  dRet (dAndV (dB1 (fIsi tb cs) (dCons (dVar 0) (dCons (dC (.ty "int")) (dNil)))) (dNotV (dB1 (fIsi tb cs) (dCons (dVar 0) (dCons (dC (.ty "bool")) (dNil))))))
def f__law_whole : PDen := runP 1 d__law_whole
/-- _law_alike(_law_found, _law_due_here) -/
def d__law_alike : DS :=
  dSeq (dIf (dOr (dNot (dB (dB1 (fIsi tb cs) (dCons (dVar 0) (dCons (dC (.ty "list")) (dNil)))))) (dB (dBin (fEq true) (dB1 fLen (dCons (dVar 0) (dNil))) (dB1 fLen (dCons (dVar 1) (dNil)))))) (dRet (dC (.bl false))) (dNext))
  (dSeq (dForE (dVar 0) (gN 2) (dSeq (dIf (dOr (dNot (dB (dB1 (fIsi tb cs) (dCons (dVar 2) (dCons (dC (.ty "tuple")) (dNil)))))) (dOr (dB (dBin (fEq true) (dB1 fLen (dCons (dVar 2) (dNil))) (dC (.int (2))))) (dOr (dNot (dB (dB1 (fIsi tb cs) (dCons (dBin fIx (dVar 2) (dC (.int (0)))) (dCons (dC (.ty "tuple")) (dNil)))))) (dB (dBin (fEq true) (dB1 fLen (dCons (dBin fIx (dVar 2) (dC (.int (0)))) (dNil))) (dC (.int (2)))))))) (dRet (dC (.bl false))) (dNext))
  (dIf (dOr (dNot (dB (dCall 1 f__law_whole (dCons (dBin fIx (dBin fIx (dVar 2) (dC (.int (0)))) (dC (.int (0)))) (dNil))))) (dOr (dNot (dB (dCall 1 f__law_whole (dCons (dBin fIx (dBin fIx (dVar 2) (dC (.int (0)))) (dC (.int (1)))) (dNil))))) (dNot (dB (dCall 1 f__law_whole (dCons (dBin fIx (dVar 2) (dC (.int (1)))) (dNil))))))) (dRet (dC (.bl false))) (dNext))))
  (dRet (dBin (fEq false) (dVar 0) (dVar 1))))
def f__law_alike : PDen := runP 3 d__law_alike
/-- _law_rows(_law_script) -/
def d__law_rows : DS :=
  dSeq (dSet 1 (dLst true (dNil)))
  (dSeq (dFor (dRange1 (dCons (dBin (fAdd false) (dC (.int (1))) (dBin fMod (dCall 2 f__law_cell (dCons (dVar 0) (dCons (dC (.int (0))) (dNil)))) (dC (.int (8))))) (dNil))) (gN 2) (dSeq (dSet 3 (dCall 2 f__law_cell (dCons (dVar 0) (dCons (dBin (fAdd false) (dC (.int (2))) (dVar 2)) (dNil)))))
  (dSeq (dSet 4 (dBin fIx (dLst false (dCons (dBin fMod (dBin fDiv (dVar 3) (dC (.int (4)))) (dC (.int (4)))) (dCons (dBin fMod (dBin fDiv (dVar 3) (dC (.int (4)))) (dBin (fAdd false) (dBin fPow (dC (.int (10))) (dC (.int (9)))) (dC (.int (1))))) (dNil)))) (dB1 fInt (dCons (dBin fGt (dBin fMod (dVar 3) (dC (.int (4)))) (dC (.int (1)))) (dNil)))))
  (dExpr (dMeth fAppend (dVar 1) (dCons (dTup (dCons (dVar 4) (dCons (dBin (fAdd false) (dC (.int (1))) (dBin fMod (dBin (fAdd false) (dCall 2 f__law_mix (dCons (dVar 3) (dCons (dVar 2) (dNil)))) (dBin fDiv (dVar 3) (dBin fPow (dC (.int (10))) (dC (.int (44)))))) (dC (.int (1000))))) (dNil)))) (dNil)))))))
  (dRet (dVar 1)))
def f__law_rows : PDen := runP 5 d__law_rows
/-- _law_due(_law_rows_here) -/
def d__law_due : DS :=
  dSeq (dSet 1 (dDictK))
  (dSeq (dSet 2 (dC (.int (0))))
  (dSeq (dForE (dVar 0) (gU 2 (gC (gN 3) (gC (gN 4) (gE)))) (dKPut (dBin (fAdd false) (dKGet (dVar 1) (dVar 3) (dC (.int (0)))) (dVar 4)) (dVar 1) (dVar 3)))
  (dSeq (dLockK 1 (dFor (dKeysK (dVar 1)) (gN 3) (dSet 2 (dCall 2 g__law_common (dCons (dVar 2) (dCons (dKIx (dVar 1) (dVar 3)) (dNil)))))))
  (dRet (dCompE false ([3]) (dB1 (fSortedDK false) (dCons (dVar 1) (dNil))) (gN 3) (dYes) (dTup (dCons (dTup (dCons (dVar 3) (dCons (dC (.int (1))) (dNil)))) (dCons (dBin fDiv (dKIx (dVar 1) (dVar 3)) (dVar 2)) (dNil)))))))))
def f__law_due : PDen := runP 5 d__law_due
/-- _law_spoiled(_law_rows_here, _law_cell_here) -/
def d__law_spoiled : DS :=
  dSeq (dSet 2 (dBin fMod (dBin fDiv (dVar 1) (dC (.int (4)))) (dB1 fLen (dCons (dVar 0) (dNil)))))
  (dSeq (dSet 3 (dBin fDiv (dVar 1) (dC (.int (32)))))
  (dSeq (dAsg (dBin fIx (dVar 0) (dVar 2)) (gU 2 (gC (gN 4) (gC (gN 5) (gE)))))
  (dSeq (dIf (dB (dBin (fEq false) (dBin fMod (dVar 1) (dC (.int (4)))) (dC (.int (0))))) (dSeq (dSet 6 (dLst false (dCons (dLst false (dNil)) (dCons (dSlice false (dBin (fAdd false) (dBin (fAdd false) (dVar 0) (dVar 0)) (dBin (fRep false) (dLst false (dCons (dBin fIx (dVar 0) (dC (.int (0)))) (dNil))) (dC (.int (8))))) (dNoPart) (dPart (dC (.int (9))))) (dCons (dB1 fTuple (dCons (dVar 0) (dNil))) (dCons (dC .non) (dCons (dC (.int (5))) (dCons (dC (.bl true)) (dCons (dC (.str "ab")) (dCons (dDct0) (dCons (dDct1 (1) (1)) (dNil))))))))))))
  (dRet (dBin fIx (dVar 6) (dBin fMod (dVar 3) (dC (.int (9))))))) (dNext))
  (dSeq (dSet 7 (dBin fIx (dLst false (dCons (dC .non) (dCons (dC (.int (5))) (dCons (dC (.str "ab")) (dCons (dTup (dNil)) (dCons (dTup (dCons (dVar 4) (dNil))) (dCons (dTup (dCons (dVar 4) (dCons (dVar 5) (dCons (dC (.int (1))) (dNil))))) (dCons (dLst false (dCons (dVar 4) (dCons (dVar 5) (dNil)))) (dCons (dC (.bl true)) (dNil)))))))))) (dBin fMod (dVar 3) (dC (.int (8))))))
  (dSeq (dIf (dB (dBin (fEq false) (dBin fMod (dVar 1) (dC (.int (4)))) (dC (.int (1))))) (dSeq (dSet 8 (dBin fIx (dLst false (dCons (dNeg (dC (.int (1)))) (dCons (dBin (fAdd false) (dBin fPow (dC (.int (10))) (dC (.int (9)))) (dC (.int (1)))) (dCons (dBin (fAdd false) (dBin (fAdd false) (dBin fPow (dC (.int (10))) (dC (.int (9)))) (dC (.int (1)))) (dBin fMod (dBin fDiv (dVar 3) (dC (.int (8)))) (dBin fPow (dC (.int (10))) (dC (.int (20)))))) (dCons (dC (.bl true)) (dCons (dC .non) (dCons (dC (.str "3")) (dCons (dTup (dCons (dC (.int (1))) (dCons (dC (.int (1))) (dNil)))) (dCons (dLst false (dCons (dC (.int (1))) (dNil))) (dNil)))))))))) (dBin fMod (dVar 3) (dC (.int (8))))))
  (dSet 7 (dTup (dCons (dVar 8) (dCons (dVar 5) (dNil)))))) (dNext))
  (dSeq (dIf (dB (dBin (fEq false) (dBin fMod (dVar 1) (dC (.int (4)))) (dC (.int (2))))) (dSet 7 (dTup (dCons (dVar 4) (dCons (dBin fIx (dLst false (dCons (dC (.int (0))) (dCons (dC (.int (1001))) (dCons (dNeg (dC (.int (1)))) (dCons (dC (.bl true)) (dCons (dC .non) (dCons (dC (.str "1")) (dCons (dBin (fAdd false) (dC (.int (1001))) (dBin fMod (dBin fDiv (dVar 3) (dC (.int (8)))) (dBin fPow (dC (.int (10))) (dC (.int (20)))))) (dCons (dTup (dCons (dC (.int (1))) (dCons (dC (.int (1))) (dNil)))) (dNil)))))))))) (dBin fMod (dVar 3) (dC (.int (8))))) (dNil))))) (dNext))
  (dRet (dBin (fAdd false) (dBin (fAdd false) (dSlice false (dVar 0) (dNoPart) (dPart (dVar 2))) (dLst false (dCons (dVar 7) (dNil)))) (dSlice false (dVar 0) (dPart (dBin (fAdd false) (dVar 2) (dC (.int (1))))) (dNoPart))))))))))
def f__law_spoiled : PDen := runP 9 d__law_spoiled
/-- _law_refused(_law_thing) -/
def d__law_refused : DS :=
  dSeq (dSet 1 (dLst true (dNil)))
  (dSeq (dTry (catch_ xl 24) 2 (dExpr (dCall 1 f_table_of (dCons (dVar 0) (dNil)))) (dSeq (dSet 1 (dLst true (dCons (dB1 (fIsi tb cs) (dCons (dVar 2) (dCons (dC (.cls 21)) (dNil)))) (dCons (dB1 (fIsi tb cs) (dCons (dVar 2) (dCons (dC (.ty "ValueError")) (dNil)))) (dCons (dIsiT tb cs (dVar 2) (dCons (dC (.cls 3)) (dCons (dC (.cls 5)) (dCons (dC (.cls 10)) (dCons (dC (.cls 19)) (dNil)))))) (dNil))))))
  (dExpr (dMeth fAppend (dVar 1) (dCons (dIsiT tb cs (dVar 2) (dCons (dC (.cls 20)) (dCons (dC (.cls 22)) (dCons (dC (.cls 23)) (dCons (dC (.cls 11)) (dCons (dC (.cls 16)) (dCons (dC (.cls 17)) (dNil)))))))) (dNil))))))
  (dRet (dBin (fEq false) (dVar 1) (dLst false (dCons (dC (.bl true)) (dCons (dC (.bl true)) (dCons (dC (.bl false)) (dCons (dC (.bl false)) (dNil)))))))))
def f__law_refused : PDen := runP 3 d__law_refused
/-- law(_law_script) -/
def d_law : DS :=
  dSeq (dSet 1 (dCall 1 f__law_rows (dCons (dVar 0) (dNil))))
  (dSeq (dIf (dB (dBin (fEq false) (dBin fMod (dCall 2 f__law_cell (dCons (dVar 0) (dCons (dC (.int (1))) (dNil)))) (dC (.int (2)))) (dC (.int (1))))) (dRet (dCall 1 f__law_refused (dCons (dCall 2 f__law_spoiled (dCons (dVar 1) (dCons (dCall 2 f__law_mix (dCons (dCall 2 f__law_cell (dCons (dVar 0) (dCons (dC (.int (1))) (dNil)))) (dCons (dC (.int (1))) (dNil)))) (dNil)))) (dNil)))) (dNext))
  (dSeq (dSet 2 (dB1 (fList true) (dCons (dVar 1) (dNil))))
  (dSeq (dSet 3 (dCall 1 f__law_due (dCons (dVar 1) (dNil))))
  (dSeq (dSet 4 (dCallU 1 f_table_of (dCons (dVar 2) (dNil))))
  (dSeq (dIf (dOr (dNot (dB (dCall 2 f__law_alike (dCons (dVar 4) (dCons (dVar 3) (dNil)))))) (dB (dBin (fEq true) (dVar 2) (dVar 1)))) (dRet (dC (.bl false))) (dNext))
  (dSeq (dExpr (dMeth fAppend (dVar 2) (dCons (dTup (dCons (dC (.int (1))) (dCons (dC (.int (1))) (dNil)))) (dNil))))
  (dSeq (dSet 5 (dB1 (fList false) (dCons (dVar 4) (dNil))))
  (dSeq (dExpr (dMeth0 fClear (dVar 4)))
  (dRet (dAndV (dCall 2 f__law_alike (dCons (dCall 1 f_table_of (dCons (dVar 1) (dNil))) (dCons (dVar 3) (dNil)))) (dBin (fEq false) (dVar 5) (dVar 3))))))))))))
def f_law : PDen := runP 6 d_law
end Law

namespace Law
open PySem PySem.Spec PyProof.Rows L2 A LF DT Tb
/-! the program's table_of: rows of a whole worth and a weight -/
theorem isi_tup {ps : List PV} {fr : Bool} {st : Store} : fIsi tb cs [.v (.tup ps) fr, .v (.ty "tuple") false] st = .ok (.v (.bl true) false) st := by simp [fIsi, tyA, tyP, clsTy, okTy, tb_b, kB_ii, kB_ib, kB_tt, kB_bb, kB_ll, kB_ss]
theorem isi_lst {t : Bool} {ps : List PV} {fr : Bool} {st : Store} : fIsi tb cs [.v (.lst t ps) fr, .v (.ty "list") false] st = .ok (.v (.bl true) false) st := by simp [fIsi, tyA, tyP, clsTy, okTy, tb_b, kB_ii, kB_ib, kB_tt, kB_bb, kB_ll, kB_ss]
theorem whole_t {w a b : Int} (h : a ≤ w) (k : w ≤ b) : f_is_whole [.int w, .int a, .int b] = .ok (.bl true) false := by
  simp [f_is_whole, d_is_whole, dChain, h, k, fIsi, tyA, tyP, clsTy, okTy, tb_b, kB_ii, kB_ib, kB_tt, kB_bb, kB_ll, kB_ss, runP, runI, slots0, A.strip, dRet, dRetN, Res.flow, Res.then, dBin, dI2, dVar, dC, fIx, okP, okV, freeze, L2.atI, L2.ixN, dSeq, dIf, dSet, dExpr, dB, dArg, dCons, dNil, callP, toPs, toP, PRes.res, dNext, dB1, fLen, lenOf, fAbs, fAdd, dAnd, dOr, dNot, dAndV, dOrV, dNotV, dBV, dIfE, dTup, dLst, newL, dAsg, gN, gT, gU, unP, gC, gE, dForE, forR, lstAt, turnsAt, dCompE, compR, isLst, dMeth, dMeth0, putL, itemsOf, fAppend, fExtend, fClear, fPop, fPopAt, fInsert, fReverse, fPut, dPut, fInts, dAug, dNeg, dPar, fInt, fMax2, fMin2, Nat.ble, dBreak, dCont, dComp, compL, noEx, wipeS, dYes, dRange1, dRange2, asI1, asI2, bnd, dItem, itemsV, dSlice, dPart, dNoPart, fSlice, A.cut, HT.sIx, A.listOf,  noBor, noBors, views, view, viewN, optAll]
theorem whole_f {w a b : Int} (h : ¬ (a ≤ w ∧ w ≤ b)) : f_is_whole [.int w, .int a, .int b] = .ok (.bl false) false := by
  by_cases q : a ≤ w
  · have q2 : ¬ w ≤ b := fun z => h ⟨q, z⟩
    simp [f_is_whole, d_is_whole, dChain, q, q2, fIsi, tyA, tyP, clsTy, okTy, tb_b, kB_ii, kB_ib, kB_tt, kB_bb, kB_ll, kB_ss, runP, runI, slots0, A.strip, dRet, dRetN, Res.flow, Res.then, dBin, dI2, dVar, dC, fIx, okP, okV, freeze, L2.atI, L2.ixN, dSeq, dIf, dSet, dExpr, dB, dArg, dCons, dNil, callP, toPs, toP, PRes.res, dNext, dB1, fLen, lenOf, fAbs, fAdd, dAnd, dOr, dNot, dAndV, dOrV, dNotV, dBV, dIfE, dTup, dLst, newL, dAsg, gN, gT, gU, unP, gC, gE, dForE, forR, lstAt, turnsAt, dCompE, compR, isLst, dMeth, dMeth0, putL, itemsOf, fAppend, fExtend, fClear, fPop, fPopAt, fInsert, fReverse, fPut, dPut, fInts, dAug, dNeg, dPar, fInt, fMax2, fMin2, Nat.ble, dBreak, dCont, dComp, compL, noEx, wipeS, dYes, dRange1, dRange2, asI1, asI2, bnd, dItem, itemsV, dSlice, dPart, dNoPart, fSlice, A.cut, HT.sIx, A.listOf,  noBor, noBors, views, view, viewN, optAll]
  · simp [f_is_whole, d_is_whole, dChain, q, fIsi, tyA, tyP, clsTy, okTy, tb_b, kB_ii, kB_ib, kB_tt, kB_bb, kB_ll, kB_ss, runP, runI, slots0, A.strip, dRet, dRetN, Res.flow, Res.then, dBin, dI2, dVar, dC, fIx, okP, okV, freeze, L2.atI, L2.ixN, dSeq, dIf, dSet, dExpr, dB, dArg, dCons, dNil, callP, toPs, toP, PRes.res, dNext, dB1, fLen, lenOf, fAbs, fAdd, dAnd, dOr, dNot, dAndV, dOrV, dNotV, dBV, dIfE, dTup, dLst, newL, dAsg, gN, gT, gU, unP, gC, gE, dForE, forR, lstAt, turnsAt, dCompE, compR, isLst, dMeth, dMeth0, putL, itemsOf, fAppend, fExtend, fClear, fPop, fPopAt, fInsert, fReverse, fPut, dPut, fInts, dAug, dNeg, dPar, fInt, fMax2, fMin2, Nat.ble, dBreak, dCont, dComp, compL, noEx, wipeS, dYes, dRange1, dRange2, asI1, asI2, bnd, dItem, itemsV, dSlice, dPart, dNoPart, fSlice, A.cut, HT.sIx, A.listOf,  noBor, noBors, views, view, viewN, optAll]
theorem row_two {p q : PV} {a b : Bool} (h1 : f_is_whole [p, .int 0, .int 1000000000] = .ok (.bl a) false) (h2 : f_is_whole [q, .int 1, .int 1000] = .ok (.bl b) false) : f_is_row [.tup [p, q]] = .ok (.bl (a && b)) false := by
  obtain ⟨_, fr, e, rfl, rfl⟩ := wp_ok (N := 1) (d := d_is_row) (ps := [.tup [p, q]]) (P := fun x fr => x = .bl (a && b) ∧ fr = false) (by
    unfold d_is_row
    walk_at "a_slots"
    refine wp_if (c := false) (st1 := []) (dOr_ok (a := false) (b := false) (dNot_ok' (b := true) (dB_ok' (dB1_ok (dCons_ok (dVar_ok rfl) (dCons_ok dC_ok dNil_ok)) isi_tup)) rfl) fun _ => dB_ok' (dBin_ok (dB1_ok (dCons_ok (dVar_ok rfl) dNil_ok) fLen_tup) dC_ok fNe_int)) (fun c => by cases c) fun _ => ?_
    refine wp_next ?_
    exact wp_ret (dAndV_ok (fr' := false) (dArg_ok (dCons_ok (dBin_ok (dVar_ok rfl) dC_ok (fIx_tup rfl)) (dCons_ok dC_ok (dCons_ok dC_ok dNil_ok))) rfl (cP3 h1)) fun _ => dArg_ok (dCons_ok (dBin_ok (dVar_ok rfl) dC_ok (fIx_tup rfl)) (dCons_ok dC_ok (dCons_ok dC_ok dNil_ok))) rfl (cP3 h2)) ⟨_, _, _, rfl, rfl, rfl⟩)
  exact e
theorem row_ok {rs : List IRow} (R : IRows rs) {r : IRow} (hr : r ∈ rs) : f_is_row [irE r] = .ok (.bl true) false := by
  obtain ⟨a, b, c, d⟩ := R.ok r hr
  exact row_two (whole_t a b) (whole_t c d)
abbrev prtI (r : IRow) : Sh × Sh := ((r.1, 1), (r.2, 1))
theorem meas_prt (rs : List IRow) (k : Sh) : meas (vals (rs.map prtI)) k = meas (ivals (rs.map toT)) k := by
  unfold vals ivals
  rw [List.map_map, List.map_map]
  congr 1
  refine List.map_congr_left fun r _ => ?_
  show ((r.1, (1 : Int)), val (r.2, 1)) = ((r.1, (1 : Int)), ((r.2 : Int) : Rat))
  rw [val_one]
/-- a table made of rows -/
structure TabOf (rs : List IRow) (T : List TRow) : Prop where
  tab : IsTab T (meas (ivals (rs.map toT)))
  len : T.length ≤ rs.length
  ne : rs ≠ [] → T ≠ []
  ok : ∀ r ∈ T, r.1.2 = 1 ∧ 0 ≤ r.1.1 ∧ r.1.1 ≤ 1000000000 ∧ 1 ≤ r.2 ∧ Sz 900 r.2
theorem tab_ex {rs : List IRow} (R : IRows rs) (l8 : rs.length ≤ 8) : ∃ T, TabOf rs T := by
  have hk : ∀ e ∈ rs.map prtI, Lo e.1 ∧ Pz 31 e.1 ∧ Pz 11 e.2 ∧ 0 ≤ e.2.1 := fun e he => by
    obtain ⟨r, hr, rfl⟩ := List.mem_map.mp he
    obtain ⟨a, b, c, d⟩ := R.ok r hr
    exact ⟨lo_one _, int_pz a b, pz_one (n := 10) (w_sz c d), by show 0 ≤ r.2; omega⟩
  have ln : (rs.map prtI).length ≤ 8 := by rw [List.length_map]; exact l8
  obtain ⟨n, hn⟩ : ∃ n, (rs.map prtI).length = n := ⟨_, rfl⟩
  have m1 : n * (11 + 1) ≤ 8 * 12 := Nat.mul_le_mul (by omega) (by omega)
  have m2 : n * (1 + n * (11 + 1)) ≤ 8 * 97 := Nat.mul_le_mul (by omega) (by omega)
  have m3 : n * 31 ≤ 8 * 31 := Nat.mul_le_mul (by omega) (by omega)
  obtain ⟨q, fr, e, rows, rfl, rfl, T', len, ok⟩ := told_ok (t := true) (K := 31) (P := 11) hk (by omega) (by rw [hn]; omega) (by rw [hn]; omega)
  have T : IsTab rows (meas (ivals (rs.map toT))) := T'.of_eq fun k => (meas_prt rs k).symm
  refine ⟨rows, T, by rw [List.length_map] at len; exact len, fun ne z => ?_, fun r hr => ?_⟩
  · obtain ⟨r, hr⟩ := List.exists_mem_of_ne_nil rs ne
    have g := meas_ge (l := ivals (rs.map toT)) (k := (r.1, 1)) (e := ((r.1, 1), (r.2 : Rat))) (fun x hx => by
      obtain ⟨y, hy, rfl⟩ := List.mem_map.mp hx
      have := (R.hk y hy).2.2.2
      have : (1 : Rat) ≤ (y.2 : Rat) := by exact_mod_cast this
      show (0 : Rat) ≤ (y.2 : Rat)
      grind) (List.mem_map.mpr ⟨toT r, List.mem_map.mpr ⟨r, hr, rfl⟩, rfl⟩) rfl
    have w1 := (R.ok r hr).2.2.1
    have w2 : (1 : Rat) ≤ (r.2 : Rat) := by exact_mod_cast w1
    have k := T.key (r.1, 1) (fun w => by
      rw [w] at g
      have g : (r.2 : Rat) ≤ 0 := g
      grind)
    rw [z] at k
    simp at k
  · obtain ⟨a, b, c⟩ := ok r hr
    rw [hn] at c
    rw [List.map_map] at b
    obtain ⟨x, hx, e0⟩ := List.mem_map.mp b
    obtain ⟨a1, a2, a3, a4⟩ := R.ok x hx
    have e0 : (x.1, (1 : Int)) = r.1 := e0
    rw [← e0]
    exact ⟨rfl, a1, a2, T.pos r hr, c.mono (by omega)⟩
theorem table_of_ok {t : Bool} {rs : List IRow} (R : IRows rs) (l1 : 1 ≤ rs.length) (l8 : rs.length ≤ 8) {T : List TRow} (hT : TabOf rs T) : f_table_of [.lst t (rs.map irE)] = .ok (.lst true (T.map rowE)) true := by
  have hk : ∀ e ∈ rs.map prtI, Lo e.1 ∧ Pz 31 e.1 ∧ Pz 11 e.2 ∧ 0 ≤ e.2.1 := fun e he => by
    obtain ⟨r, hr, rfl⟩ := List.mem_map.mp he
    obtain ⟨a, b, c, d⟩ := R.ok r hr
    exact ⟨lo_one _, int_pz a b, pz_one (n := 10) (w_sz c d), by show 0 ≤ r.2; omega⟩
  have ln : (rs.map prtI).length ≤ 8 := by rw [List.length_map]; exact l8
  obtain ⟨n, hn⟩ : ∃ n, (rs.map prtI).length = n := ⟨_, rfl⟩
  have m1 : n * (11 + 1) ≤ 8 * 12 := Nat.mul_le_mul (by omega) (by omega)
  have m2 : n * (1 + n * (11 + 1)) ≤ 8 * 97 := Nat.mul_le_mul (by omega) (by omega)
  have m3 : n * 31 ≤ 8 * 31 := Nat.mul_le_mul (by omega) (by omega)
  obtain ⟨q, fr, e, rows, rfl, rfl, T', _⟩ := told_ok (t := true) (K := 31) (P := 11) hk (by omega) (by rw [hn]; omega) (by rw [hn]; omega)
  have eq : rows = T := T'.uniq hT.tab (c := 1) (by decide) fun k => by rw [meas_prt]; grind
  subst eq
  obtain ⟨_, fr, e, rfl, rfl⟩ := wp_ok (N := 4) (d := d_table_of) (ps := [.lst t (rs.map irE)]) (P := fun x fr => x = .lst true (rows.map rowE) ∧ fr = true) (by
    have b1 : decide ((1 : Int) ≤ ((rs.map irE).length : Int)) = true := decide_eq_true (by rw [List.length_map]; omega)
    have b2 : decide (((rs.map irE).length : Int) ≤ 8) = true := decide_eq_true (by rw [List.length_map]; omega)
    unfold d_table_of
    walk_at "a_slots"
    refine wp_if (c := false) (st1 := []) (dOr_ok (a := false) (b := false) (dNot_ok' (b := true) (dB_ok' (dB1_ok (dCons_ok (dVar_ok rfl) (dCons_ok dC_ok dNil_ok)) isi_lst)) rfl) fun _ => dNot_ok' (b := true) (dB_ok' (dChain_ok dC_ok (dB1_ok (dCons_ok (dVar_ok rfl) dNil_ok) fLen_lst) (fLe_ok.trans (by rw [b1])) dC_ok (fLe_ok.trans (by rw [b2])))) rfl) (fun c => by cases c) fun _ => ?_
    refine wp_next ?_
    refine wp_forI irE rs (fun _ _ S st => ∃ x1, S = [some (.v (.lst t (rs.map irE)) false), x1, none, none] ∧ st = []) (dVar_ok rfl) ⟨_, rfl, rfl⟩ ?_ ?_
    · rintro done r todo S st hd ⟨x1, rfl, rfl⟩
      refine ⟨_, rfl, ?_⟩
      have hr := row_ok R (r := r) (by rw [← hd]; simp)
      walk_at "a_nrm"
      refine wp_if' (c := false) (st1 := []) (dNot_ok' (b := true) (dB_ok' (dArg_ok (dCons_ok (dVar_ok rfl) dNil_ok) rfl (cP1 hr))) rfl) (fun c => by cases c) fun _ => wp_next' ⟨_, rfl, rfl⟩
    · rintro S st ⟨x1, rfl, rfl⟩
      refine wp_ret (dArg_ok (dCons_ok (compE_lst irE (fun r => partE (prtI r)) rs (dVar_ok rfl) (by omega) fun r hr => ⟨_, rfl, false, ?_⟩) dNil_ok) rfl (cP1 (by rw [List.map_map] at e; exact e))) ⟨_, _, _, rfl, rfl, rfl⟩
      simp only [wipeS]
      exact dTup2 (dCons_ok (dArg_ok (dCons_ok (dVar_ok rfl) dNil_ok) rfl (cP1 (whole_ok _))) (dCons_ok (dArg_ok (dCons_ok (dVar_ok rfl) dNil_ok) rfl (cP1 (whole_ok _))) dNil_ok)))
  exact e
theorem due_ok {t : Bool} {rs : List IRow} (R : IRows rs) (l1 : 1 ≤ rs.length) (l8 : rs.length ≤ 8) {T : List TRow} (hT : TabOf rs T) : f__law_due [.lst t (rs.map irE)] = .ok (.lst true (T.map rowE)) true := by
  obtain ⟨_, fr, e, rfl, rfl⟩ := wp_ok (N := 5) (d := d__law_due) (ps := [.lst t (rs.map irE)]) (P := fun x fr => x = .lst true (T.map rowE) ∧ fr = true) (by
    obtain ⟨S1, st1, e1, x, y, d, rfl, rfl, one, I⟩ := isums (i := 3) (j := 4) R (by omega) (fun x y => [some (.v (.lst t (rs.map irE)) false), some (.ref 0), some (.v (.int 0) false), x, y]) (fun _ _ _ _ _ => rfl) (fun _ _ => rfl) (fun _ _ => rfl) fun _ _ => rfl
    obtain ⟨S2, st2, e2, x2, q, rfl, rfl, b1, b2, b3⟩ := icom (i := 3) (b := 2) one I.nd (fun x q => [some (.v (.lst t (rs.map irE)) false), some (.ref 0), some (.v (.int q) false), x, y]) (fun _ _ _ => rfl) (fun _ _ => rfl) (fun _ _ => rfl) (fun _ _ => rfl) (fun _ _ _ => rfl) x
    obtain ⟨T', eT, tT, len, ok, get⟩ := itab R one I b1 b2 b3
    obtain rfl : T' = T := tT.uniq hT.tab (c := 1) (by decide) fun k => by grind
    have il := I.len
    rw [List.length_map] at il
    have sl : (sortI (d.map (·.1.1))).length ≤ 1000000 := by rw [(sortI_perm _).length_eq, List.length_map]; omega
    unfold d__law_due
    walk_at "a_slots"
    refine wp_set (x := .ref 0) (st1 := [.dK []]) rfl ?_
    walk_at "a_nrm"
    refine wp_set dC_ok ?_
    walk_at "a_nrm"
    refine wp_forE (t := t) (enc := irE) (ys := rs) rfl e1 ?_
    refine wp_nx (lockK_ok (n := 0) (kvs := dcI d) (kvs' := dcI d) rfl rfl (dFor_ok (keysK_ok (n := 0) (d := d) rfl rfl) e2) rfl) ?_
    refine wp_ret (compE_lst PV.int (fun w => rowE ((w, 1), (gi d (w, 1)).fdiv q)) (sortI (d.map (·.1.1))) (sortK_ok (n := 0) (d := d) (dCons_ok (dVar_ok rfl) dNil_ok) rfl (by omega)) sl fun w hw => ⟨_, rfl, false, ?_⟩) ⟨_, _, _, rfl, ?_, rfl⟩
    · obtain ⟨g, b0⟩ := get w hw
      simp only [wipeS]
      exact dTup2 (dCons_ok (dTup2 (dCons_ok (dVar_ok rfl) (dCons_ok dC_ok dNil_ok))) (dCons_ok (dBin_ok (kix_ok (n := 0) one (dVar_ok rfl) rfl (dVar_ok rfl) g) (dVar_ok rfl) (fDiv_ok b0)) dNil_ok))
    · rw [eT, List.map_map]
      rfl)
  exact e
theorem rows_ok (ns : List Int) : ∃ rs : List IRow, f__law_rows [.scr ns] = .ok (.lst true (rs.map irE)) true ∧ IRows rs ∧ 1 ≤ rs.length ∧ rs.length ≤ 8 := by
  obtain ⟨c0, hc0⟩ := cell_ok ns 0 (by decide)
  obtain ⟨m0, m1⟩ := fmod_pos (i := c0) (j := 8) (by decide)
  obtain ⟨n, hn, hn1, hn2⟩ : ∃ n : Nat, 1 + c0.fmod 8 = (n : Int) ∧ 1 ≤ n ∧ n ≤ 8 := ⟨(1 + c0.fmod 8).toNat, by omega, by omega, by omega⟩
  obtain ⟨_, fr, e, rs, rfl, rfl, R, l1, l8⟩ := wp_ok' (N := 5) (d := d__law_rows) (ps := [.scr ns]) (P := fun x fr => ∃ rs : List IRow, x = .lst true (rs.map irE) ∧ fr = true ∧ IRows rs ∧ 1 ≤ rs.length ∧ rs.length ≤ 8) (by
    unfold d__law_rows
    walk_at "a_slots"
    refine wp_set (dLst_t dNil_ok rfl) ?_
    walk_at "a_nrm"
    refine wp_forD (fun (i : Nat) => AV.v (.int (i : Int)) false) (List.range n) (fun done _ S st => ∃ rs : List IRow, ∃ x2 x3 x4, S = [some (.v (.scr ns) false), some (.ref 0), x2, x3, x4] ∧ st = [.lst (rs.map fun e => .v (irE e) false)] ∧ rs.length = done.length ∧ IRows rs) (range1N (n := n) (fr := false) (st1 := [.lst []]) (dCons_ok (x := .v (.int (n : Int)) false) ?_ dNil_ok) (by omega)) ⟨[], _, _, _, rfl, rfl, rfl, ⟨fun e he => absurd he List.not_mem_nil⟩⟩ ?_ ?_
    · rw [← hn]
      exact dBin_ok dC_ok (dBin_ok (dArg_ok (dCons_ok (dVar_ok rfl) (dCons_ok dC_ok dNil_ok)) rfl (cP2 hc0)) dC_ok (fMod_ok (by decide))) fAdd_ok
    · rintro done k todo S st hd ⟨rs, x2, x3, x4, rfl, rfl, el, ok⟩
      have kl : k < n := by
        have : k ∈ List.range n := by rw [← hd]; simp
        simpa using this
      have dl : done.length < n := by
        have := congrArg List.length hd
        simp at this
        omega
      obtain ⟨c, hc⟩ := cell_ok ns (2 + k) (by omega)
      have hc : f__law_cell [.scr ns, .int (2 + (k : Int))] = .ok (.int c) false := by
        have := hc
        push_cast at this
        exact this
      obtain ⟨r, hr, _⟩ := mix_ok c k (by omega) (by omega)
      obtain ⟨w0, w1⟩ := fmod_pos (i := r + c.fdiv 100000000000000000000000000000000000000000000) (j := 1000) (by decide)
      obtain ⟨v0, v1⟩ := fmod_pos (i := c.fdiv 4) (j := 4) (by decide)
      obtain ⟨u0, u1⟩ := fmod_pos (i := c.fdiv 4) (j := 1000000001) (by decide)
      obtain ⟨w, hw, hw0, hw1⟩ : ∃ w : Int, L2.atI [PV.int ((c.fdiv 4).fmod 4), PV.int ((c.fdiv 4).fmod 1000000001)] (if decide ((1 : Int) < c.fmod 4) then 1 else 0) = some (.int w) ∧ 0 ≤ w ∧ w ≤ 1000000000 := by
        cases decide ((1 : Int) < c.fmod 4) with
        | true => exact ⟨_, rfl, u0, by omega⟩
        | false => exact ⟨_, rfl, v0, by omega⟩
      refine ⟨_, rfl, ?_⟩
      walk_at "a_nrm"
      refine wp_set (dArg_ok (dCons_ok (dVar_ok rfl) (dCons_ok (dBin_ok dC_ok (dVar_ok rfl) fAdd_ok) dNil_ok)) rfl (cP2 hc)) ?_
      walk_at "a_nrm"
      refine wp_set (dBin_ok (dLst_f (dCons_ok (dBin_ok (dBin_ok (dVar_ok rfl) dC_ok (fDiv_ok (by decide))) dC_ok (fMod_ok (by decide))) (dCons_ok (dBin_ok (dBin_ok (dVar_ok rfl) dC_ok (fDiv_ok (by decide))) (dBin_ok (dBin_ok dC_ok dC_ok (fPow_ok (k := 1000000000) (by decide) (by simp only [Int.reduceToNat, Int.reducePow]))) dC_ok fAdd_ok) (fMod_ok (by decide))) dNil_ok)) rfl rfl) (dB1_ok (dCons_ok (dBin_ok (dBin_ok (dVar_ok rfl) dC_ok (fMod_ok (by decide))) dC_ok fGt_ok) dNil_ok) rfl) (fIx_lst hw)) ?_
      walk_at "a_nrm"
      refine wp_expr' (dMeth_at (dVar_ok rfl) (isL_ref rfl) (dCons_ok (dTup2 (dCons_ok (dVar_ok rfl) (dCons_ok (dBin_ok dC_ok (dBin_ok (dBin_ok (dArg_ok (dCons_ok (dVar_ok rfl) (dCons_ok (dVar_ok rfl) dNil_ok)) rfl (cP2 hr)) (dBin_ok (dVar_ok rfl) (dBin_ok dC_ok dC_ok (fPow_ok (k := 100000000000000000000000000000000000000000000) (by decide) (by simp only [Int.reduceToNat, Int.reducePow]))) (fDiv_ok (by decide))) fAdd_ok) dC_ok (fMod_ok (by decide))) fAdd_ok) dNil_ok))) dNil_ok) (fAppend_ok rfl (by rw [List.length_map]; omega))) ?_
      refine ⟨rs ++ [(w, 1 + (r + c.fdiv 100000000000000000000000000000000000000000000).fmod 1000)], _, _, _, rfl, by simp [irE, A.strip], by simp [el], ⟨fun e he => ?_⟩⟩
      rcases List.mem_append.mp he with z | z
      · exact ok.ok e z
      · rw [List.mem_singleton.mp z]
        exact ⟨hw0, hw1, by show 1 ≤ 1 + _; omega, by show 1 + _ ≤ 1000; omega⟩
    · rintro S st ⟨rs, x2, x3, x4, rfl, rfl, el, ok⟩
      rw [List.length_range] at el
      refine wp_ret (dVar_ok rfl) ⟨_, .lst true (rs.map irE), true, _, rfl, freeze_enc rfl, rs, rfl, rfl, ok, by omega, by omega⟩)
  exact ⟨rs, e, R, l1, l8⟩
/-! what is refused -/
theorem tof_len {t : Bool} {xs : List PV} (l : xs.length = 0 ∨ 8 < xs.length) : f_table_of [.lst t xs] = .ex ⟨21, []⟩ := by
  have e0 : Wp d_table_of (slots0 4 ([PV.lst t xs].map (AV.v · false))) [] fun f => ∃ S st, f = .ex ⟨21, []⟩ S st := by
    unfold d_table_of
    walk_at "a_slots"
    rcases l with l | l
    · have b : decide ((1 : Int) ≤ (xs.length : Int)) = false := decide_eq_false (by omega)
      refine wp_if (c := true) (st1 := []) (dOr_ok (a := false) (b := true) (dNot_ok' (b := true) (dB_ok' (dB1_ok (dCons_ok (dVar_ok rfl) (dCons_ok dC_ok dNil_ok)) isi_lst)) rfl) fun _ => dNot_ok' (dB_ok' (dChain_ok (k := false) dC_ok (dB1_ok (dCons_ok (dVar_ok rfl) dNil_ok) fLen_lst) (fLe_ok.trans (by rw [b])) dC_ok fLe_ok)) rfl) (fun _ => ?_) fun c => by cases c
      exact wp_raiseS ⟨_, _, rfl⟩
    · have a : decide ((1 : Int) ≤ (xs.length : Int)) = true := decide_eq_true (by omega)
      have b : decide ((xs.length : Int) ≤ 8) = false := decide_eq_false (by omega)
      refine wp_if (c := true) (st1 := []) (dOr_ok (a := false) (b := true) (dNot_ok' (b := true) (dB_ok' (dB1_ok (dCons_ok (dVar_ok rfl) (dCons_ok dC_ok dNil_ok)) isi_lst)) rfl) fun _ => dNot_ok' (dB_ok' (dChain_ok (k := true) (k' := false) dC_ok (dB1_ok (dCons_ok (dVar_ok rfl) dNil_ok) fLen_lst) (fLe_ok.trans (by rw [a])) dC_ok (fLe_ok.trans (by rw [b])))) rfl) (fun _ => ?_) fun c => by cases c
      exact wp_raiseS ⟨_, _, rfl⟩
  obtain ⟨S, st, e⟩ := e0
  unfold f_table_of runP
  rw [e]
theorem tof_bad {t : Bool} {xs : List PV} {g : PV → Bool} (l1 : 1 ≤ xs.length) (l8 : xs.length ≤ 8) (h : ∀ x ∈ xs, f_is_row [x] = .ok (.bl (g x)) false) (z : ∃ x ∈ xs, g x = false) : f_table_of [.lst t xs] = .ex ⟨21, []⟩ := by
  have e0 : Wp d_table_of (slots0 4 ([PV.lst t xs].map (AV.v · false))) [] fun f => ∃ S st, f = .ex ⟨21, []⟩ S st := by
    have b1 : decide ((1 : Int) ≤ (xs.length : Int)) = true := decide_eq_true (by omega)
    have b2 : decide ((xs.length : Int) ≤ 8) = true := decide_eq_true (by omega)
    unfold d_table_of
    walk_at "a_slots"
    refine wp_if (c := false) (st1 := []) (dOr_ok (a := false) (b := false) (dNot_ok' (b := true) (dB_ok' (dB1_ok (dCons_ok (dVar_ok rfl) (dCons_ok dC_ok dNil_ok)) isi_lst)) rfl) fun _ => dNot_ok' (b := true) (dB_ok' (dChain_ok dC_ok (dB1_ok (dCons_ok (dVar_ok rfl) dNil_ok) fLen_lst) (fLe_ok.trans (by rw [b1])) dC_ok (fLe_ok.trans (by rw [b2])))) rfl) (fun c => by cases c) fun _ => ?_
    refine wp_next ?_
    refine wp_forI (fun x => x) xs (fun done _ S st => (∃ x1, S = [some (.v (.lst t xs) false), x1, none, none] ∧ st = []) ∧ ∀ x ∈ done, g x = true) (by rw [List.map_id']; exact dVar_ok rfl) ⟨⟨_, rfl, rfl⟩, fun x hx => absurd hx List.not_mem_nil⟩ ?_ ?_
    · rintro done r todo S st hd ⟨⟨x1, rfl, rfl⟩, ok⟩
      refine ⟨_, rfl, ?_⟩
      have hr := h r (by rw [← hd]; simp)
      walk_at "a_nrm"
      cases q : g r with
      | true =>
        rw [q] at hr
        refine wp_if' (c := false) (st1 := []) (dNot_ok' (b := true) (dB_ok' (dArg_ok (dCons_ok (dVar_ok rfl) dNil_ok) rfl (cP1 hr))) rfl) (fun c => by cases c) fun _ => wp_next' ⟨⟨_, rfl, rfl⟩, fun x hx => ?_⟩
        rcases List.mem_append.mp hx with w | w
        · exact ok x w
        · rw [List.mem_singleton.mp w]; exact q
      | false =>
        rw [q] at hr
        refine wp_if' (c := true) (st1 := []) (dNot_ok' (b := false) (dB_ok' (dArg_ok (dCons_ok (dVar_ok rfl) dNil_ok) rfl (cP1 hr))) rfl) (fun _ => ?_) fun c => by cases c
        exact wp_raise ⟨fun S st z => (nomatch z), _, _, rfl⟩
    · rintro S st ⟨⟨x1, rfl, rfl⟩, ok⟩
      obtain ⟨x, hx, q⟩ := z
      rw [ok x hx] at q
      cases q
  obtain ⟨S, st, e⟩ := e0
  unfold f_table_of runP
  rw [e]
theorem ref_ok {p : PV} (h : f_table_of [p] = .ex ⟨21, []⟩) : f__law_refused [p] = .ok (.bl true) false := by
  obtain ⟨_, fr, e, rfl, rfl⟩ := wp_ok (N := 3) (d := d__law_refused) (ps := [p]) (P := fun x fr => x = .bl true ∧ fr = false) (by
    unfold d__law_refused
    walk_at "a_slots"
    refine wp_set (x := .ref 0) (st1 := [.lst []]) (dLst_t dNil_ok rfl) ?_
    walk_at "a_nrm"
    have e1 : dExpr (dCall 1 f_table_of (dCons (dVar 0) dNil)) [some (.v p false), some (.ref 0), none] [.lst []] = .ex ⟨21, []⟩ [some (.v p false), some (.ref 0), none] [.lst []] := by
      unfold dExpr
      rw [show dCall 1 f_table_of (dCons (dVar 0) dNil) [some (.v p false), some (.ref 0), none] [.lst []] = .ex ⟨21, []⟩ [.lst []] from dArg_ok (dCons_ok (dVar_ok rfl) dNil_ok) rfl (by
        unfold callP
        rw [show toPs [AV.v p false] = some [p] from rfl]
        show (f_table_of [p]).res _ _ = _
        rw [h]
        rfl)]
      rfl
    refine wp_nx (S1 := [some (.v p false), some (.ref 1), none]) (st1 := [.lst [], .lst [.v (.bl true) false, .v (.bl true) false, .v (.bl false) false, .v (.bl false) false]]) ?_ ?_
    · unfold dTry
      rw [e1]
      rfl
    · exact wp_ret (x := .v (.bl true) false) (st1 := [.lst [], .lst [.v (.bl true) false, .v (.bl true) false, .v (.bl false) false, .v (.bl false) false]]) rfl ⟨_, _, _, rfl, rfl, rfl⟩)
  exact e
/-- things that are no number -/
def oddK (p : PV) : Prop := p = .bl true ∨ p = .non ∨ p = .str "3" ∨ p = .str "1" ∨ p = .tup [.int 1, .int 1] ∨ p = .lst true [.int 1]
theorem odd_no {p : PV} (h : oddK p) (a b : Int) : f_is_whole [p, .int a, .int b] = .ok (.bl false) false := by
  rcases h with rfl | rfl | rfl | rfl | rfl | rfl <;> rfl
theorem pick {P : PV → Prop} {n : Nat} (m : Int) (hn : 0 < n) (xs : List PV) (l : xs.length = n) (h : ∀ x ∈ xs, P x) : ∃ q, L2.atI xs (m.fmod (n : Int)) = some q ∧ P q := by
  obtain ⟨r0, r1⟩ := fmod_pos (i := m) (j := (n : Int)) (by omega)
  obtain ⟨j, hj⟩ : ∃ j : Nat, m.fmod (n : Int) = (j : Int) := ⟨(m.fmod (n : Int)).toNat, by omega⟩
  have jl : j < xs.length := by omega
  exact ⟨xs[j], by rw [hj]; exact A.atN (List.getElem?_eq_getElem jl), h _ (List.getElem_mem jl)⟩
def rowB : PRes → Bool
  | .ok (.bl b) _ => b
  | _ => false
/-- a row in the place of another -/
theorem put_bad {rs : List IRow} {k : Nat} {p : PV} (R : IRows rs) (hk : k < rs.length) (l8 : rs.length ≤ 8) (h : f_is_row [p] = .ok (.bl false) false) : f_table_of [.lst true ((rs.map irE).take k ++ [p] ++ (rs.map irE).drop (k + 1))] = .ex ⟨21, []⟩ := by
  have len : ((rs.map irE).take k ++ [p] ++ (rs.map irE).drop (k + 1)).length = rs.length := by simp; omega
  have tr : ∀ x ∈ rs.map irE, f_is_row [x] = .ok (.bl true) false := fun x hx => by
    obtain ⟨r, hr, rfl⟩ := List.mem_map.mp hx
    exact row_ok R hr
  have mem : ∀ x ∈ (rs.map irE).take k ++ [p] ++ (rs.map irE).drop (k + 1), f_is_row [x] = .ok (.bl true) false ∨ x = p := fun x hx => by
    rcases List.mem_append.mp hx with hx | hx
    · rcases List.mem_append.mp hx with hx | hx
      · exact .inl (tr x (List.mem_of_mem_take hx))
      · exact .inr (List.mem_singleton.mp hx)
    · exact .inl (tr x (List.mem_of_mem_drop hx))
  refine tof_bad (g := fun x => rowB (f_is_row [x])) (by omega) (by omega) (fun x hx => ?_) ⟨p, by simp, by rw [h]; rfl⟩
  rcases mem x hx with z | rfl
  · rw [z]; rfl
  · rw [h]; rfl
theorem dct0_ok {S : Slots} {st : Store} : dDct0 S st = .ok (.v (.dct true [] []) false) st := rfl
theorem dct1_ok {S : Slots} {st : Store} : dDct1 (1) (1) S st = .ok (.v (.dct true [.inl 1] [.int 1]) false) st := rfl
theorem dTup0 {S : Slots} {st : Store} : dTup dNil S st = .ok (.v (.tup []) false) st := rfl
theorem spoiled_ok {rs : List IRow} (R : IRows rs) (l1 : 1 ≤ rs.length) (l8 : rs.length ≤ 8) (c : Int) : ∃ p fr, f__law_spoiled [.lst true (rs.map irE), .int c] = .ok p fr ∧ f_table_of [p] = .ex ⟨21, []⟩ := by
  have ll : ((rs.map irE).length : Int) ≠ 0 := by rw [List.length_map]; omega
  obtain ⟨r0, r1⟩ := fmod_pos (i := c.fdiv 4) (j := ((rs.map irE).length : Int)) (by rw [List.length_map]; omega)
  obtain ⟨k, hk⟩ : ∃ k : Nat, (c.fdiv 4).fmod ((rs.map irE).length : Int) = (k : Int) := ⟨((c.fdiv 4).fmod ((rs.map irE).length : Int)).toNat, by omega⟩
  have kl : k < rs.length := by rw [List.length_map] at r1 hk; omega
  obtain ⟨⟨v, w⟩, hvw⟩ : ∃ r, rs[k]? = some r := ⟨_, List.getElem?_eq_getElem kl⟩
  have hvm : (v, w) ∈ rs := List.mem_of_getElem? hvw
  obtain ⟨v1, v2, w1, w2⟩ := R.ok _ hvm
  have hrow : L2.atI (rs.map irE) ((k : Nat) : Int) = some (irE (v, w)) := A.atN (by rw [List.getElem?_map, hvw]; rfl)
  obtain ⟨q0, q1⟩ := fmod_pos (i := c) (j := 4) (by decide)
  obtain ⟨x0, x1⟩ := fmod_pos (i := (c.fdiv 32).fdiv 8) (j := 100000000000000000000) (by decide)
  have fin : ∀ (p7 : PV) (f7 : Bool) (x4 x5 x6 x8 : Option AV), f_is_row [p7] = .ok (.bl false) false → ∃ p fr st1, dRet (dBin (fAdd false) (dBin (fAdd false) (dSlice false (dVar 0) (dNoPart) (dPart (dVar 2))) (dLst false (dCons (dVar 7) (dNil)))) (dSlice false (dVar 0) (dPart (dBin (fAdd false) (dVar 2) (dC (.int (1))))) (dNoPart))) [some (.v (.lst true (rs.map irE)) false), some (.v (.int c) false), some (.v (.int (k : Int)) false), some (.v (.int (c.fdiv 32)) false), x4, x5, x6, some (.v p7 f7), x8] [] = .rt (.v p fr) st1 ∧ f_table_of [p] = .ex ⟨21, []⟩ := fun p7 f7 x4 x5 x6 x8 h7 => by
    refine ⟨_, _, _, dRet_ok (dBin_ok (dBin_ok (take_ok (k := k) (dVar_ok rfl) (dVar_ok rfl) (by rw [List.length_map]; omega)) (dLst_f (dCons_ok (dVar_ok rfl) dNil_ok) rfl rfl) (fAdd_lists (by simp; omega))) (drop_ok (k := k + 1) (dVar_ok rfl) (dBin_ok (dVar_ok rfl) dC_ok fAdd_ok) (by rw [List.length_map]; omega)) (fAdd_lists (by simp; omega))), ?_⟩
    exact put_bad R kl l8 h7
  have rown : ∀ x ∈ ([.non, .int 5, .str "ab", .tup [], .tup [.int v], .tup [.int v, .int w, .int 1], .lst true [.int v, .int w], .bl true] : List PV), f_is_row [x] = .ok (.bl false) false := fun x hx => by
    simp only [List.mem_cons, List.not_mem_nil, or_false] at hx
    rcases hx with rfl | rfl | rfl | rfl | rfl | rfl | rfl | rfl <;> rfl
  obtain ⟨pr, hpr, npr⟩ := pickP (c.fdiv 32) (n := 8) (by decide) [.non, .int 5, .str "ab", .tup [], .tup [.int v], .tup [.int v, .int w, .int 1], .lst true [.int v, .int w], .bl true] rfl rown
  have badn : ∀ x ∈ ([.int (-1), .int 1000000001, .int (1000000001 + ((c.fdiv 32).fdiv 8).fmod 100000000000000000000), .bl true, .non, .str "3", .tup [.int 1, .int 1], .lst true [.int 1]] : List PV), f_is_whole [x, .int 0, .int 1000000000] = .ok (.bl false) false := fun x hx => by
    simp only [List.mem_cons, List.not_mem_nil, or_false] at hx
    rcases hx with rfl | rfl | rfl | rfl | rfl | rfl | rfl | rfl
    · exact whole_f (by omega)
    · exact whole_f (by omega)
    · exact whole_f (by omega)
    all_goals rfl
  obtain ⟨pb, hpb, npb⟩ := pickP (c.fdiv 32) (n := 8) (by decide) [.int (-1), .int 1000000001, .int (1000000001 + ((c.fdiv 32).fdiv 8).fmod 100000000000000000000), .bl true, .non, .str "3", .tup [.int 1, .int 1], .lst true [.int 1]] rfl badn
  have wn : ∀ x ∈ ([.int 0, .int 1001, .int (-1), .bl true, .non, .str "1", .int (1001 + ((c.fdiv 32).fdiv 8).fmod 100000000000000000000), .tup [.int 1, .int 1]] : List PV), f_is_whole [x, .int 1, .int 1000] = .ok (.bl false) false := fun x hx => by
    simp only [List.mem_cons, List.not_mem_nil, or_false] at hx
    rcases hx with rfl | rfl | rfl | rfl | rfl | rfl | rfl | rfl
    · exact whole_f (by omega)
    · exact whole_f (by omega)
    · exact whole_f (by omega)
    · rfl
    · rfl
    · rfl
    · exact whole_f (by omega)
    · rfl
  obtain ⟨pw, hpw, npw⟩ := pickP (c.fdiv 32) (n := 8) (by decide) [.int 0, .int 1001, .int (-1), .bl true, .non, .str "1", .int (1001 + ((c.fdiv 32).fdiv 8).fmod 100000000000000000000), .tup [.int 1, .int 1]] rfl wn
  have n1 : f_is_row [.tup [pb, .int w]] = .ok (.bl false) false := row_two npb (whole_t w1 w2)
  have n2 : f_is_row [.tup [.int v, pw]] = .ok (.bl false) false := row_two (whole_t v1 v2) npw
  obtain ⟨⟨v0, w0⟩, h0⟩ : ∃ r, rs[0]? = some r := ⟨_, List.getElem?_eq_getElem (by omega)⟩
  have h00 : L2.atI (rs.map irE) 0 = some (irE (v0, w0)) := show L2.atI (rs.map irE) ((0 : Nat) : Int) = some (irE (v0, w0)) from A.atN (by rw [List.getElem?_map, h0]; rfl)
  have hl1 : (rs.map irE).length + (rs.map irE).length ≤ 1000000 := by rw [List.length_map]; omega
  have hl2 : (rs.map irE ++ rs.map irE).length + (List.replicate 8 (irE (v0, w0))).length ≤ 1000000 := by simp; omega
  have hl3 : 9 ≤ (rs.map irE ++ rs.map irE ++ List.replicate 8 (irE (v0, w0))).length := by simp; omega
  have somen : ∀ x ∈ ([.lst true [], .lst true ((rs.map irE ++ rs.map irE ++ List.replicate 8 (irE (v0, w0))).take 9), .tup (rs.map irE), .non, .int 5, .bl true, .str "ab", .dct true [] [], .dct true [.inl 1] [.int 1]] : List PV), f_table_of [x] = .ex ⟨21, []⟩ := fun x hx => by
    simp only [List.mem_cons, List.not_mem_nil, or_false] at hx
    rcases hx with rfl | rfl | rfl | rfl | rfl | rfl | rfl | rfl | rfl
    · rfl
    · exact tof_len (.inr (by rw [List.length_take]; omega))
    all_goals rfl
  obtain ⟨ps, hps, nps⟩ := pickP (c.fdiv 32) (n := 9) (by decide) [.lst true [], .lst true ((rs.map irE ++ rs.map irE ++ List.replicate 8 (irE (v0, w0))).take 9), .tup (rs.map irE), .non, .int 5, .bl true, .str "ab", .dct true [] [], .dct true [.inl 1] [.int 1]] rfl somen
  have m4 : c.fmod 4 = 0 ∨ c.fmod 4 = 1 ∨ c.fmod 4 = 2 ∨ c.fmod 4 = 3 := by omega
  refine wp_ok (N := 9) (d := d__law_spoiled) (P := fun p fr => f_table_of [p] = .ex ⟨21, []⟩) ?_
  unfold d__law_spoiled
  walk_at "a_slots"
  refine wp_set (dBin_ok (dBin_ok (dVar_ok rfl) dC_ok (fDiv_ok (by decide))) (dB1_ok (dCons_ok (dVar_ok rfl) dNil_ok) fLen_lst) (fMod_ok ll)) ?_
  rw [hk]
  walk_at "a_nrm"
  refine wp_set (dBin_ok (dVar_ok rfl) dC_ok (fDiv_ok (by decide))) ?_
  walk_at "a_nrm"
  refine wp_asg (dBin_ok (dVar_ok rfl) (dVar_ok rfl) (fIx_lst hrow)) rfl ?_
  walk_at "a_nrm"
  rcases m4 with q | q | q | q
  · refine wp_if (c := true) (st1 := []) (dB_ok' (dBin_ok (dBin_ok (dVar_ok rfl) dC_ok (fMod_ok (by decide))) dC_ok (by rw [q, fEq_int]; rfl))) (fun _ => ?_) fun c => by cases c
    walk_at "a_nrm"
    refine wp_assoc ?_
    refine wp_set (dLst_f (dCons_ok (dLst_f dNil_ok rfl rfl) (dCons_ok (take_ok (k := 9) (dBin_ok (dBin_ok (dVar_ok rfl) (dVar_ok rfl) (fAdd_lists hl1)) (dBin_ok (dLst_f (dCons_ok (dBin_ok (dVar_ok rfl) dC_ok (fIx_lst h00)) dNil_ok) rfl rfl) dC_ok (rep1_ok (k := 8) (by decide))) (fAdd_lists hl2)) dC_ok hl3) (dCons_ok (dB1_ok (dCons_ok (dVar_ok rfl) dNil_ok) fTuple_lst) (dCons_ok dC_ok (dCons_ok dC_ok (dCons_ok dC_ok (dCons_ok dC_ok (dCons_ok dct0_ok (dCons_ok dct1_ok dNil_ok))))))))) rfl rfl) ?_
    walk_at "a_nrm"
    exact wp_retS (dBin_ok (dVar_ok rfl) (dBin_ok (dVar_ok rfl) dC_ok (fMod_ok (by decide))) (fIx_lst hps)) ⟨_, _, _, rfl, nps⟩
  · refine wp_if (c := false) (st1 := []) (dB_ok' (dBin_ok (dBin_ok (dVar_ok rfl) dC_ok (fMod_ok (by decide))) dC_ok (by rw [q, fEq_int]; rfl))) (fun c => by cases c) fun _ => ?_
    refine wp_next ?_
    walk_at "a_nrm"
    refine wp_set (dBin_ok (dLst_f (dCons_ok dC_ok (dCons_ok dC_ok (dCons_ok dC_ok (dCons_ok dTup0 (dCons_ok (dTup1 (dCons_ok (dVar_ok rfl) dNil_ok)) (dCons_ok (dTup3 (dCons_ok (dVar_ok rfl) (dCons_ok (dVar_ok rfl) (dCons_ok dC_ok dNil_ok)))) (dCons_ok (dLst_f (dCons_ok (dVar_ok rfl) (dCons_ok (dVar_ok rfl) dNil_ok)) rfl rfl) (dCons_ok dC_ok dNil_ok)))))))) rfl rfl) (dBin_ok (dVar_ok rfl) dC_ok (fMod_ok (by decide))) (fIx_lst hpr)) ?_
    walk_at "a_nrm"
    refine wp_if (c := true) (st1 := []) (dB_ok' (dBin_ok (dBin_ok (dVar_ok rfl) dC_ok (fMod_ok (by decide))) dC_ok (by rw [q, fEq_int]; rfl))) (fun _ => ?_) fun c => by cases c
    walk_at "a_nrm"
    refine wp_assoc ?_
    refine wp_set (dBin_ok (dLst_f (dCons_ok (dNeg_ok dC_ok) (dCons_ok (dBin_ok (dBin_ok dC_ok dC_ok (fPow_ok (k := 1000000000) (by decide) (by simp only [Int.reduceToNat, Int.reducePow]))) dC_ok fAdd_ok) (dCons_ok (dBin_ok (dBin_ok (dBin_ok dC_ok dC_ok (fPow_ok (k := 1000000000) (by decide) (by simp only [Int.reduceToNat, Int.reducePow]))) dC_ok fAdd_ok) (dBin_ok (dBin_ok (dVar_ok rfl) dC_ok (fDiv_ok (by decide))) (dBin_ok dC_ok dC_ok (fPow_ok (k := 100000000000000000000) (by decide) (by simp only [Int.reduceToNat, Int.reducePow]))) (fMod_ok (by decide))) fAdd_ok) (dCons_ok dC_ok (dCons_ok dC_ok (dCons_ok dC_ok (dCons_ok (dTup2 (dCons_ok dC_ok (dCons_ok dC_ok dNil_ok))) (dCons_ok (dLst_f (dCons_ok dC_ok dNil_ok) rfl rfl) dNil_ok)))))))) rfl rfl) (dBin_ok (dVar_ok rfl) dC_ok (fMod_ok (by decide))) (fIx_lst hpb)) ?_
    walk_at "a_nrm"
    refine wp_set (dTup2 (dCons_ok (dVar_ok rfl) (dCons_ok (dVar_ok rfl) dNil_ok))) ?_
    walk_at "a_nrm"
    refine wp_if (c := false) (st1 := []) (dB_ok' (dBin_ok (dBin_ok (dVar_ok rfl) dC_ok (fMod_ok (by decide))) dC_ok (by rw [q, fEq_int]; rfl))) (fun c => by cases c) fun _ => ?_
    refine wp_next ?_
    walk_at "a_nrm"
    exact fin _ _ _ _ _ _ n1
  · refine wp_if (c := false) (st1 := []) (dB_ok' (dBin_ok (dBin_ok (dVar_ok rfl) dC_ok (fMod_ok (by decide))) dC_ok (by rw [q, fEq_int]; rfl))) (fun c => by cases c) fun _ => ?_
    refine wp_next ?_
    walk_at "a_nrm"
    refine wp_set (dBin_ok (dLst_f (dCons_ok dC_ok (dCons_ok dC_ok (dCons_ok dC_ok (dCons_ok dTup0 (dCons_ok (dTup1 (dCons_ok (dVar_ok rfl) dNil_ok)) (dCons_ok (dTup3 (dCons_ok (dVar_ok rfl) (dCons_ok (dVar_ok rfl) (dCons_ok dC_ok dNil_ok)))) (dCons_ok (dLst_f (dCons_ok (dVar_ok rfl) (dCons_ok (dVar_ok rfl) dNil_ok)) rfl rfl) (dCons_ok dC_ok dNil_ok)))))))) rfl rfl) (dBin_ok (dVar_ok rfl) dC_ok (fMod_ok (by decide))) (fIx_lst hpr)) ?_
    walk_at "a_nrm"
    refine wp_if (c := false) (st1 := []) (dB_ok' (dBin_ok (dBin_ok (dVar_ok rfl) dC_ok (fMod_ok (by decide))) dC_ok (by rw [q, fEq_int]; rfl))) (fun c => by cases c) fun _ => ?_
    refine wp_next ?_
    walk_at "a_nrm"
    refine wp_if (c := true) (st1 := []) (dB_ok' (dBin_ok (dBin_ok (dVar_ok rfl) dC_ok (fMod_ok (by decide))) dC_ok (by rw [q, fEq_int]; rfl))) (fun _ => ?_) fun c => by cases c
    walk_at "a_nrm"
    refine wp_set (dTup2 (dCons_ok (dVar_ok rfl) (dCons_ok (dBin_ok (dLst_f (dCons_ok dC_ok (dCons_ok dC_ok (dCons_ok (dNeg_ok dC_ok) (dCons_ok dC_ok (dCons_ok dC_ok (dCons_ok dC_ok (dCons_ok (dBin_ok dC_ok (dBin_ok (dBin_ok (dVar_ok rfl) dC_ok (fDiv_ok (by decide))) (dBin_ok dC_ok dC_ok (fPow_ok (k := 100000000000000000000) (by decide) (by simp only [Int.reduceToNat, Int.reducePow]))) (fMod_ok (by decide))) fAdd_ok) (dCons_ok (dTup2 (dCons_ok dC_ok (dCons_ok dC_ok dNil_ok))) dNil_ok)))))))) rfl rfl) (dBin_ok (dVar_ok rfl) dC_ok (fMod_ok (by decide))) (fIx_lst hpw)) dNil_ok))) ?_
    walk_at "a_nrm"
    exact fin _ _ _ _ _ _ n2
  · refine wp_if (c := false) (st1 := []) (dB_ok' (dBin_ok (dBin_ok (dVar_ok rfl) dC_ok (fMod_ok (by decide))) dC_ok (by rw [q, fEq_int]; rfl))) (fun c => by cases c) fun _ => ?_
    refine wp_next ?_
    walk_at "a_nrm"
    refine wp_set (dBin_ok (dLst_f (dCons_ok dC_ok (dCons_ok dC_ok (dCons_ok dC_ok (dCons_ok dTup0 (dCons_ok (dTup1 (dCons_ok (dVar_ok rfl) dNil_ok)) (dCons_ok (dTup3 (dCons_ok (dVar_ok rfl) (dCons_ok (dVar_ok rfl) (dCons_ok dC_ok dNil_ok)))) (dCons_ok (dLst_f (dCons_ok (dVar_ok rfl) (dCons_ok (dVar_ok rfl) dNil_ok)) rfl rfl) (dCons_ok dC_ok dNil_ok)))))))) rfl rfl) (dBin_ok (dVar_ok rfl) dC_ok (fMod_ok (by decide))) (fIx_lst hpr)) ?_
    walk_at "a_nrm"
    refine wp_if (c := false) (st1 := []) (dB_ok' (dBin_ok (dBin_ok (dVar_ok rfl) dC_ok (fMod_ok (by decide))) dC_ok (by rw [q, fEq_int]; rfl))) (fun c => by cases c) fun _ => ?_
    refine wp_next ?_
    walk_at "a_nrm"
    refine wp_if (c := false) (st1 := []) (dB_ok' (dBin_ok (dBin_ok (dVar_ok rfl) dC_ok (fMod_ok (by decide))) dC_ok (by rw [q, fEq_int]; rfl))) (fun c => by cases c) fun _ => ?_
    refine wp_next ?_
    walk_at "a_nrm"
    exact fin _ _ _ _ _ _ npr
theorem lwhole_ok (i : Int) : f__law_whole [.int i] = .ok (.bl true) false := by simp [f__law_whole, d__law_whole, fIsi, tyA, tyP, clsTy, okTy, tb_b, kB_ii, kB_ib, kB_tt, kB_bb, kB_ll, kB_ss, runP, runI, slots0, A.strip, dRet, dRetN, Res.flow, Res.then, dBin, dI2, dVar, dC, fIx, okP, okV, freeze, L2.atI, L2.ixN, dSeq, dIf, dSet, dExpr, dB, dArg, dCons, dNil, callP, toPs, toP, PRes.res, dNext, dB1, fLen, lenOf, fAbs, fAdd, dAnd, dOr, dNot, dAndV, dOrV, dNotV, dBV, dIfE, dTup, dLst, newL, dAsg, gN, gT, gU, unP, gC, gE, dForE, forR, lstAt, turnsAt, dCompE, compR, isLst, dMeth, dMeth0, putL, itemsOf, fAppend, fExtend, fClear, fPop, fPopAt, fInsert, fReverse, fPut, dPut, fInts, dAug, dNeg, dPar, fInt, fMax2, fMin2, Nat.ble, dBreak, dCont, dComp, compL, noEx, wipeS, dYes, dRange1, dRange2, asI1, asI2, bnd, dItem, itemsV, dSlice, dPart, dNoPart, fSlice, A.cut, HT.sIx, A.listOf,  noBor, noBors, views, view, viewN, optAll]
end Law
local macro_rules | `(tactic| walk_at "a_hint") => `(tactic| first | exact Law.lwhole_ok _ | exact Law.isi_tup | exact Law.isi_lst)
namespace Law
open PySem PySem.Spec PyProof.Rows L2 A LF DT Tb
theorem alike_ok {t u : Bool} {rows : List TRow} : f__law_alike [.lst t (rows.map rowE), .lst u (rows.map rowE)] = .ok (.bl true) false := by
  obtain ⟨q, fr, e, rfl, rfl⟩ := wp_ok (N := 3) (d := d__law_alike) (ps := [.lst t (rows.map rowE), .lst u (rows.map rowE)]) (P := fun q fr => q = .bl true ∧ fr = false) (by
    unfold d__law_alike
    walk_at "a_slots"
    walk_at "a_wif"
    · intro c; simp at c
    intro _
    walk_at "a_wp"
    refine wp_forI rowE rows (fun _ _ S st => ∃ x2, S = [some (.v (.lst t (rows.map rowE)) false), some (.v (.lst u (rows.map rowE)) false), x2] ∧ st = []) rfl ⟨none, rfl, rfl⟩ ?_ ?_
    · rintro done r todo S st hd ⟨x2, rfl, rfl⟩
      refine ⟨_, rfl, ?_⟩
      walk_at "a_nrm"
      walk_at "a_wif"
      · intro c; simp at c
      intro _
      walk_at "a_wp"
      walk_at "a_wif"
      · intro c; simp at c
      intro _
      walk_at "a_wp"
      exact ⟨_, rfl, rfl⟩
    · rintro S st ⟨x2, rfl, rfl⟩
      walk_at "a_wp"
      exact ⟨_, _, _, rfl, by simp, rfl⟩)
  exact e
end Law
local macro_rules | `(tactic| walk_at "a_hint") => `(tactic| exact Law.alike_ok)
namespace Law
open PySem PySem.Spec PyProof.Rows L2 A LF DT Tb
theorem den (ns : List Int) (hl : ns.length ≤ 63) : ∃ fr, f_law [.scr ns] = .ok (.bl true) fr := by
  obtain ⟨rs, hrs, R, l1, l8⟩ := rows_ok ns
  obtain ⟨c1, hc1⟩ := cell_ok ns 1 (by decide)
  obtain ⟨q0, q1⟩ := fmod_pos (i := c1) (j := 2) (by decide)
  obtain ⟨m, hm, _⟩ := mix_ok c1 1 (by decide) (by decide)
  obtain ⟨p, fp, hsp, hno⟩ := spoiled_ok R l1 l8 m
  obtain ⟨T, hT⟩ := tab_ex R l8
  have tof : ∀ t, f_table_of [.lst t (rs.map irE)] = .ok (.lst true (T.map rowE)) true := fun t => table_of_ok R l1 l8 hT
  have due := due_ok (t := true) R l1 l8 hT
  obtain ⟨_, fr, e, rfl⟩ := wp_ok (N := 6) (d := d_law) (ps := [.scr ns]) (P := fun x fr => x = .bl true) (by
    unfold d_law
    walk_at "a_slots"
    refine wp_set (dArg_ok (dCons_ok (dVar_ok rfl) dNil_ok) rfl (cP1 hrs)) ?_
    walk_at "a_nrm"
    have tst : ∀ (x2 x3 x4 x5 : Option AV), dB (dBin (fEq false) (dBin fMod (dCall 2 f__law_cell (dCons (dVar 0) (dCons (dC (.int (1))) (dNil)))) (dC (.int (2)))) (dC (.int (1)))) [some (.v (.scr ns) false), some (.v (.lst true (rs.map irE)) true), x2, x3, x4, x5] [] = .ok (decide (c1.fmod 2 = 1)) [] := fun x2 x3 x4 x5 => dB_ok' (dBin_ok (dBin_ok (dArg_ok (dCons_ok (dVar_ok rfl) (dCons_ok dC_ok dNil_ok)) rfl (cP2 hc1)) dC_ok (fMod_ok (by decide))) dC_ok fEq_int)
    by_cases q : c1.fmod 2 = 1
    · refine wp_if (c := true) ((tst _ _ _ _).trans (by rw [decide_eq_true q])) (fun _ => ?_) fun c => by cases c
      exact wp_retS (dArg_ok (dCons_ok (dArg_ok (dCons_ok (dVar_ok rfl) (dCons_ok (dArg_ok (dCons_ok (dArg_ok (dCons_ok (dVar_ok rfl) (dCons_ok dC_ok dNil_ok)) rfl (cP2 hc1)) (dCons_ok dC_ok dNil_ok)) rfl (cP2 hm)) dNil_ok)) rfl (cP2 hsp)) dNil_ok) rfl (cP1 (ref_ok hno))) ⟨_, _, _, rfl, rfl⟩
    · refine wp_if (c := false) ((tst _ _ _ _).trans (by rw [decide_eq_false q])) (fun c => by cases c) fun _ => wp_next ?_
      have nb : noBor (.lst true (T.map rowE)) = true := noBor_lst fun r => rfl
      have nr : noBor (.lst true (rs.map irE)) = true := noBor_lst fun r => rfl
      refine wp_set (x := .ref 0) (st1 := [.lst (rs.map fun r => .v (irE r) false)]) (dB1_ok (dCons_ok (dVar_ok rfl) dNil_ok) (fList_t.trans (by rw [List.map_map]; rfl))) ?_
      walk_at "a_nrm"
      refine wp_set (dArg_ok (dCons_ok (dVar_ok rfl) dNil_ok) rfl (cP1 due)) ?_
      walk_at "a_nrm"
      refine wp_set (x := .ref 1) (st1 := [.lst (rs.map fun r => .v (irE r) false), .lst (T.map fun r => .v (rowE r) false)]) (dArg_ok (dCons_ok (dVar_ok rfl) dNil_ok) rfl ((cUR1 (ys := rs) (enc := irE) rfl (tof false) nb).trans (by rw [List.map_map]; rfl))) ?_
      walk_at "a_nrm"
      refine wp_if (c := false) (st1 := [.lst (rs.map fun r => .v (irE r) false), .lst (T.map fun r => .v (rowE r) false)]) (dOr_ok (a := false) (b := false) (dNot_ok' (b := true) (dB_ok' (dArg_ok (dCons_ok (dVar_ok rfl) (dCons_ok (dVar_ok rfl) dNil_ok)) rfl (cR2a (ys := T) (enc := rowE) rfl alike_ok rfl))) rfl) fun _ => dB_ok' (fr := false) (dBin_ok (dVar_ok rfl) (dVar_ok rfl) ((fEq_ref (ys := rs) (enc := irE) (f := false) rfl).trans ((fEq_shares (a := rs) (b := rs)).trans (by rw [decide_eq_true rfl]; rfl))))) (fun c => by cases c) fun _ => wp_next ?_
      refine wp_expr (dMeth_at (dVar_ok rfl) (isL_ref rfl) (dCons_ok (dTup2 (dCons_ok dC_ok (dCons_ok dC_ok dNil_ok))) dNil_ok) (fAppend_ok rfl (by rw [List.length_map]; omega))) ?_
      refine wp_set (dB1_ok (dCons_ok (dVar_ok rfl) dNil_ok) (fList_r (ys := T) (enc := rowE) rfl)) ?_
      walk_at "a_nrm"
      refine wp_expr (dMeth0_at (dVar_ok rfl) (isL_ref rfl) (fClear_ok rfl)) ?_
      exact wp_ret (dAndV_ok (fr' := false) (dArg_ok (dCons_ok (dArg_ok (dCons_ok (dVar_ok rfl) dNil_ok) rfl (cP1 (tof true))) (dCons_ok (dVar_ok rfl) dNil_ok)) rfl (cP2 alike_ok)) fun _ => dBin_ok (dVar_ok rfl) (dVar_ok rfl) (fEq_rows.trans (by simp))) ⟨_, _, _, rfl, rfl⟩)
  exact ⟨fr, e⟩
end Law

namespace Law
open PySem PySem.Spec PyProof.Rows L2 A
open Tb (f_divisor f_share f_whole f_plus f_common_bottom f_told_form f__law_cell f__law_mix f__law_common g_divisor g_divisor_eq g_share g_share_eq g_plus g_plus_eq g__law_common g__law_common_eq)
def top (i : Nat) : Stmt := PySem.Challenge.pw_lidprice_k02_tables_made.main.body.getD i (.Pass ⟨0, 0, 0, 0⟩)
def fa : List He.Fa := [.free "abs", .glo "divisor", .glo "share", .free "int", .free "isinstance", .free "bool", .glo "plus", .free "list", .glo "common_bottom", .free "sorted", .free "tuple", .free "len", .int "MOST_WORTH" (1000000000), .glo "is_whole", .int "MOST_WEIGHT" (1000), .int "MOST_ROWS" (8), .exc "NoTable", .glo "NoTable", .glo "is_row", .glo "whole", .glo "told_form", .glo "_law_whole", .glo "_law_cell", .free "range", .glo "_law_mix", .glo "_law_common", .glo "table_of", .glo "NoOffers", .glo "NoSets", .glo "NoDeed", .glo "NoBox", .free "ValueError", .glo "TooMany", .glo "NoPlan", .glo "NoPattern", .glo "NoText", .glo "NoRanks", .glo "NoRule", .glo "LidError", .glo "_law_rows", .glo "_law_spoiled", .glo "_law_refused", .glo "_law_due", .glo "_law_alike", .glo "law"]
def dd_divisor : He.DefD := ⟨("divisor", none), "divisor", "divisor", defArgs (top 14), defBody (top 14), defScope (top 14), [], []⟩
def dd_share : He.DefD := ⟨("share", none), "share", "share", defArgs (top 15), defBody (top 15), defScope (top 15), [], []⟩
def dd_whole : He.DefD := ⟨("whole", none), "whole", "whole", defArgs (top 16), defBody (top 16), defScope (top 16), [], []⟩
def dd_plus : He.DefD := ⟨("plus", none), "plus", "plus", defArgs (top 17), defBody (top 17), defScope (top 17), [], []⟩
def dd_is_whole : He.DefD := ⟨("is_whole", none), "is_whole", "is_whole", defArgs (top 22), defBody (top 22), defScope (top 22), [], []⟩
def dd_common_bottom : He.DefD := ⟨("common_bottom", none), "common_bottom", "common_bottom", defArgs (top 23), defBody (top 23), defScope (top 23), [], []⟩
def dd_told_form : He.DefD := ⟨("told_form", none), "told_form", "told_form", defArgs (top 24), defBody (top 24), defScope (top 24), [], []⟩
def dd_is_row : He.DefD := ⟨("is_row", none), "is_row", "is_row", defArgs (top 25), defBody (top 25), defScope (top 25), [], []⟩
def dd_table_of : He.DefD := ⟨("table_of", none), "table_of", "table_of", defArgs (top 26), defBody (top 26), defScope (top 26), [], []⟩
def dd__law_cell : He.DefD := ⟨("_law_cell", none), "_law_cell", "_law_cell", defArgs (top 28), defBody (top 28), defScope (top 28), [], []⟩
def dd__law_mix : He.DefD := ⟨("_law_mix", none), "_law_mix", "_law_mix", defArgs (top 29), defBody (top 29), defScope (top 29), [], []⟩
def dd__law_common : He.DefD := ⟨("_law_common", none), "_law_common", "_law_common", defArgs (top 30), defBody (top 30), defScope (top 30), [], []⟩
def dd__law_whole : He.DefD := ⟨("_law_whole", none), "_law_whole", "_law_whole", defArgs (top 31), defBody (top 31), defScope (top 31), [], []⟩
def dd__law_alike : He.DefD := ⟨("_law_alike", none), "_law_alike", "_law_alike", defArgs (top 32), defBody (top 32), defScope (top 32), [], []⟩
def dd__law_rows : He.DefD := ⟨("_law_rows", none), "_law_rows", "_law_rows", defArgs (top 33), defBody (top 33), defScope (top 33), [], []⟩
def dd__law_due : He.DefD := ⟨("_law_due", none), "_law_due", "_law_due", defArgs (top 34), defBody (top 34), defScope (top 34), [], []⟩
def dd__law_spoiled : He.DefD := ⟨("_law_spoiled", none), "_law_spoiled", "_law_spoiled", defArgs (top 35), defBody (top 35), defScope (top 35), [], []⟩
def dd__law_refused : He.DefD := ⟨("_law_refused", none), "_law_refused", "_law_refused", defArgs (top 36), defBody (top 36), defScope (top 36), [], []⟩
def dd_law : He.DefD := ⟨("law", none), "law", "law", defArgs (top 37), defBody (top 37), defScope (top 37), [], []⟩
def fn : List He.DefD := [dd_divisor, dd_share, dd_whole, dd_plus, dd_is_whole, dd_common_bottom, dd_told_form, dd_is_row, dd_table_of, dd__law_cell, dd__law_mix, dd__law_common, dd__law_whole, dd__law_alike, dd__law_rows, dd__law_due, dd__law_spoiled, dd__law_refused, dd_law]
def fnames : List Str := []
def tfl : List (He.Defn × Str) := [(("told_form", none), ("told_form.<locals>." : Str) ++ "<lambda>")]
def ctx (K : PySem.W.Frag) : Ct := ⟨K, fun C => match C with | 21 => He.ga K "NoTable" | 24 => He.ga K "LidError" | 19 => He.ga K "NoOffers" | 10 => He.ga K "NoSets" | 5 => He.ga K "NoDeed" | 3 => He.ga K "NoBox" | 17 => He.ga K "TooMany" | 16 => He.ga K "NoPlan" | 11 => He.ga K "NoPattern" | 23 => He.ga K "NoText" | 22 => He.ga K "NoRanks" | 20 => He.ga K "NoRule" | _ => 0, fnames, by decide +kernel, by decide +kernel, ttOf tfl K⟩
def al : List (Str × Str × Str) := []
def bare : List Nat := []
def ex : PySem.W.Frag → Bool := fun K => clsB tl cs xl (ctx K) && (fldsB cs (ctx K) && (alB al K && bare.all fun C => mk0B K ((ctx K).ca C)))
section
variable {g : Gd}
theorem clsb (T : PG g fa fn ex ctx) : clsB tl cs xl g.c = true := by
  have e := T.ctx
  rw [e]
  exact (He.ba T.more).1
theorem kit (T : PG g fa fn ex ctx) : KitOk g.c tb cs := kit_of_b (clsb T)
theorem fldsb (T : PG g fa fn ex ctx) : fldsB cs g.c = true := by
  have e := T.ctx
  rw [e]
  exact (He.ba (He.ba T.more).2).1
theorem als (T : PG g fa fn ex ctx) : alB al g.c.K = true := (He.ba (He.ba (He.ba T.more).2).2).1
theorem mk0T (T : PG g fa fn ex ctx) (C : Nat) (h : C ∈ bare) : Mk0 g.c.K (g.c.ca C) := by
  have e := T.ctx
  rw [e]
  exact mk0B_ok (List.all_eq_true.mp (He.ba (He.ba (He.ba T.more).2).2).2 C h)
abbrev s_divisor : Stmt := top 14
def n_divisor : List Str := ["one", "other", "rest"]
theorem sc_divisor : FnScope n_divisor ["one", "other"] (defScope s_divisor) := ⟨rfl, rfl, rfl, by decide +kernel, rfl, by decide +kernel, by decide +kernel⟩
theorem ok_divisor (T : PG g fa fn ex ctx) : FnAt g 41 (He.ga g.c.K "divisor") 2 [] (spP g.c 2 f_divisor) := by
  obtain ⟨fd, FF⟩ := T.c.def_ 0 (d := dd_divisor) rfl
  exact fnAtP FF sc_divisor rfl rfl (fun _ _ _ _ _ _ us hl => match us, hl with | [_, _], _ => rfl) fun e cg tk hr =>
    have cn := cg.cn (hr.mono (by decide))
    pssa_cons (psa_set cn (i := 0) (pea_callB call_abs cr_abs (T.free 0) (by decide +kernel) (paa_cons (pea_var 0) (paa_nil))))
      (pssa_cons (psa_set cn (i := 1) (pea_callB call_abs cr_abs (T.free 0) (by decide +kernel) (paa_cons (pea_var 1) (paa_nil))))
      (pssa_cons (psa_while cn (natSlot 1) (pta_cmp op_gt r2_gt (pea_var 1) (pea_int)) (pssa_cons (psa_set cn (i := 2) (pea_op op_modN r2_mod (pea_var 0) (pea_var 1)))
      (pssa_cons (psa_set cn (i := 0) (pea_var 1))
      (pssa_one (psa_set cn (i := 1) (pea_var 2))))))
      (pssa_one (psa_ret (pea_var 0)))))

theorem okg_divisor (T : PG g fa fn ex ctx) : FnAt g 41 (He.ga g.c.K "divisor") 2 [] (spP g.c 2 g_divisor) := g_divisor_eq ▸ ok_divisor T

abbrev s_share : Stmt := top 15
def n_share : List Str := ["top", "bottom", "by"]
theorem sc_share : FnScope n_share ["top", "bottom"] (defScope s_share) := ⟨rfl, rfl, rfl, by decide +kernel, rfl, by decide +kernel, by decide +kernel⟩
theorem ok_share (T : PG g fa fn ex ctx) : FnAt g 42 (He.ga g.c.K "share") 2 [] (spP g.c 2 f_share) := by
  obtain ⟨fd, FF⟩ := T.c.def_ 1 (d := dd_share) rfl
  exact fnAtP FF sc_share rfl rfl (fun _ _ _ _ _ _ us hl => match us, hl with | [_, _], _ => rfl) fun e cg tk hr =>
    have cn := cg.cn (hr.mono (by decide))
    pssa_cons (psa_set cn (i := 2) (pea_call ok_P cg tk (T.glo 1) (okg_divisor T) (hr.mono (by decide)) (paa_cons (pea_var 0) (paa_cons (pea_var 1) (paa_nil)))))
      (pssa_cons (psa_if (pta_cmp op_lt r2_lt (pea_var 1) (pea_int)) (pssa_one (psa_set cn (i := 2) (pea_op op_sub r2_sub (pea_int) (pea_var 2)))) (pssa_nil))
      (pssa_one (psa_ret (pea_tup (paa_cons (pea_op (op_fdivA cn) r2_fdiv (pea_var 0) (pea_var 2)) (paa_cons (pea_op (op_fdivA cn) r2_fdiv (pea_var 1) (pea_var 2)) (paa_nil)))))))

theorem okg_share (T : PG g fa fn ex ctx) : FnAt g 42 (He.ga g.c.K "share") 2 [] (spP g.c 2 g_share) := g_share_eq ▸ ok_share T

abbrev s_whole : Stmt := top 16
def n_whole : List Str := ["number"]
theorem sc_whole : FnScope n_whole ["number"] (defScope s_whole) := ⟨rfl, rfl, rfl, by decide +kernel, rfl, by decide +kernel, by decide +kernel⟩
theorem ok_whole (T : PG g fa fn ex ctx) : FnAt g 41 (He.ga g.c.K "whole") 1 [] (spP g.c 1 f_whole) := by
  obtain ⟨fd, FF⟩ := T.c.def_ 2 (d := dd_whole) rfl
  exact fnAtP FF sc_whole rfl rfl (fun _ _ _ _ _ _ us hl => match us, hl with | [_], _ => rfl) fun e cg tk hr =>
    have cn := cg.cn (hr.mono (by decide))
    pssa_one (psa_ret (pea_tup (paa_cons (pea_var 0) (paa_cons (pea_int) (paa_nil)))))

abbrev s_plus : Stmt := top 17
def n_plus : List Str := ["one", "other"]
theorem sc_plus : FnScope n_plus ["one", "other"] (defScope s_plus) := ⟨rfl, rfl, rfl, by decide +kernel, rfl, by decide +kernel, by decide +kernel⟩
theorem ok_plus (T : PG g fa fn ex ctx) : FnAt g 43 (He.ga g.c.K "plus") 2 [] (spP g.c 2 f_plus) := by
  obtain ⟨fd, FF⟩ := T.c.def_ 3 (d := dd_plus) rfl
  exact fnAtP FF sc_plus rfl rfl (fun _ _ _ _ _ _ us hl => match us, hl with | [_, _], _ => rfl) fun e cg tk hr =>
    have cn := cg.cn (hr.mono (by decide))
    pssa_one (psa_ret (pea_call ok_P cg tk (T.glo 2) (okg_share T) (hr.mono (by decide)) (paa_cons (pea_op op_addA (r2_add false) (pea_op op_mulA r2_mul (pea_ix rfl (pea_var 0) (pea_int)) (pea_ix rfl (pea_var 1) (pea_int))) (pea_op op_mulA r2_mul (pea_ix rfl (pea_var 1) (pea_int)) (pea_ix rfl (pea_var 0) (pea_int)))) (paa_cons (pea_op op_mulA r2_mul (pea_ix rfl (pea_var 0) (pea_int)) (pea_ix rfl (pea_var 1) (pea_int))) (paa_nil)))))

theorem okg_plus (T : PG g fa fn ex ctx) : FnAt g 43 (He.ga g.c.K "plus") 2 [] (spP g.c 2 g_plus) := g_plus_eq ▸ ok_plus T

abbrev s_is_whole : Stmt := top 22
def n_is_whole : List Str := ["thing", "low", "high"]
theorem sc_is_whole : FnScope n_is_whole ["thing", "low", "high"] (defScope s_is_whole) := ⟨rfl, rfl, rfl, by decide +kernel, rfl, by decide +kernel, by decide +kernel⟩
theorem ok_is_whole (T : PG g fa fn ex ctx) : FnAt g 41 (He.ga g.c.K "is_whole") 3 [] (spP g.c 3 f_is_whole) := by
  obtain ⟨fd, FF⟩ := T.c.def_ 4 (d := dd_is_whole) rfl
  exact fnAtP FF sc_is_whole rfl rfl (fun _ _ _ _ _ _ us hl => match us, hl with | [_, _, _], _ => rfl) fun e cg tk hr =>
    have cn := cg.cn (hr.mono (by decide))
    pssa_one (psa_ret (pea_and (pea_callB call_isiE (cr_isi (kit T)) (T.free 4) (by decide +kernel) (paa_cons (pea_var 0) (paa_cons (pea_ty (T.free 3) (by decide +kernel)) (paa_nil)))) (pea_and (pea_not (pea_callB call_isiE (cr_isi (kit T)) (T.free 4) (by decide +kernel) (paa_cons (pea_var 0) (paa_cons (pea_ty (T.free 5) (by decide +kernel)) (paa_nil))))) (pea_one (pea_chain op_le op_le r2_le r2_le (pea_var 1) (pea_var 0) (pea_var 2))))))

abbrev s_common_bottom : Stmt := top 23
def n_common_bottom : List Str := ["fractions", "found", "one"]
theorem sc_common_bottom : FnScope n_common_bottom ["fractions"] (defScope s_common_bottom) := ⟨rfl, rfl, rfl, by decide +kernel, rfl, by decide +kernel, by decide +kernel⟩
theorem ok_common_bottom (T : PG g fa fn ex ctx) : FnAt g 42 (He.ga g.c.K "common_bottom") 1 [] (spP g.c 1 f_common_bottom) := by
  obtain ⟨fd, FF⟩ := T.c.def_ 5 (d := dd_common_bottom) rfl
  exact fnAtP FF sc_common_bottom rfl rfl (fun _ _ _ _ _ _ us hl => match us, hl with | [_], _ => rfl) fun e cg tk hr =>
    have cn := cg.cn (hr.mono (by decide))
    pssa_cons (psa_set cn (i := 1) (pea_int))
      (pssa_cons (psa_forE cn (pea_var 0) (pga_nameC (i := 2) cn) (pssa_one (psa_set cn (i := 1) (pea_op (op_fdivA cn) r2_fdiv (pea_op op_mulA r2_mul (pea_var 1) (pea_ix rfl (pea_var 2) (pea_int))) (pea_call ok_P cg tk (T.glo 1) (okg_divisor T) (hr.mono (by decide)) (paa_cons (pea_var 1) (paa_cons (pea_ix rfl (pea_var 2) (pea_int)) (paa_nil))))))))
      (pssa_one (psa_ret (pea_var 1))))

abbrev s_told_form : Stmt := top 24
def n_told_form : List Str := ["parts", "sums", "worth", "part", "scale", "weigh", "weights", "by", "rising"]
theorem sc_told_form : FnScope n_told_form ["parts"] (defScope s_told_form) := ⟨rfl, rfl, rfl, by decide +kernel, rfl, by decide +kernel, by decide +kernel⟩
theorem ok_told_form (T : PG g fa fn ex ctx) : FnAt g 44 (He.ga g.c.K "told_form") 1 [] (spP g.c 1 f_told_form) := by
  obtain ⟨fd, FF⟩ := T.c.def_ 6 (d := dd_told_form) rfl
  exact fnAtPL FF sc_told_form rfl rfl (fun _ _ _ _ _ _ us hl => match us, hl with | [_], _ => rfl) fun e hcd cg tk hr =>
    have cn := cg.cn (hr.mono (by decide))
    pssa_cons (psa_set cn (i := 1) (pea_dictT))
      (pssa_cons (psa_forE cn (pea_var 0) (pga_un cn (pgsa_cons (pga_nameC (i := 2) cn) (pgsa_cons (pga_nameC (i := 3) cn) (pgsa_nil)))) (pssa_one (psa_if (pta_cmp op_gt r2_gt (pea_ix rfl (pea_var 3) (pea_int)) (pea_int)) (pssa_one (psa_tPut cn (pea_call ok_P cg tk (T.glo 6) (okg_plus T) (hr.mono (by decide)) (paa_cons (pea_tGet cn (pea_var 1) (pea_var 2) (pea_tup (paa_cons (pea_int) (paa_cons (pea_int) (paa_nil))))) (paa_cons (pea_var 3) (paa_nil)))) (pea_var 1) (pea_var 2))) (pssa_nil))))
      (pssa_cons (psa_set cn (i := 4) (pea_call ok_P cg tk (T.glo 8) (ok_common_bottom T) (hr.mono (by decide)) (paa_cons (pea_callTy (call_list_dT cn.calm) (cr_listT false) (T.free 7) (by decide +kernel) (paa_cons (pea_var 1) (paa_nil))) (paa_nil))))
      (pssa_cons (psa_set cn (i := 5) (pea_call ok_P cg tk (T.glo 8) (ok_common_bottom T) (hr.mono (by decide)) (paa_cons (pea_lstVals false cn (T.free 7) (pea_var 1)) (paa_nil))))
      (pssa_cons (psa_set cn (i := 6) (pea_dictT))
      (pssa_cons (psa_set cn (i := 7) (pea_int))
      (pssa_cons (psa_lock 1 (psa_for cn (pia_itemsT (pea_var 1)) (pga_un cn (pgsa_cons (pga_nameC (i := 2) cn) (pgsa_cons (pga_nameC (i := 3) cn) (pgsa_nil)))) (pssa_cons (psa_tPut cn (pea_op op_mulA r2_mul (pea_ix rfl (pea_var 3) (pea_int)) (pea_op (op_fdivA cn) r2_fdiv (pea_var 5) (pea_ix rfl (pea_var 3) (pea_int)))) (pea_var 6) (pea_var 2))
      (pssa_one (psa_set cn (i := 7) (pea_call ok_P cg tk (T.glo 1) (okg_divisor T) (hr.mono (by decide)) (paa_cons (pea_var 7) (paa_cons (pea_tIx cn (pea_var 6) (pea_var 2)) (paa_nil)))))))))
      (pssa_cons (psa_set cn (i := 8) (pea_sortL false cn (ttT_base T) hcd (ttT_mem T) (ttT_one T) (T.free 9) (pea_var 1) (lamN_by (sc0 := defScope s_told_form) (by decide +kernel))))
      (pssa_one (psa_ret (pea_compE false (own := [("worth", 2)]) cn (pea_var 8) (blkOk_by (own := [("worth", 2)]) (N := n_told_form) (sc := defScope s_told_form) (by decide +kernel)) (by decide) (fun _ _ _ _ _ => pga_nameC (i := 2) cn.blk) (fun _ _ _ _ _ => ptsa_nil) (fun _ _ _ _ _ => pea_tup (paa_cons (pea_var 2) (paa_cons (pea_op (op_fdivA cn.blk) r2_fdiv (pea_tIx cn.blk (pea_var 6) (pea_var 2)) (pea_var 7)) (paa_nil))))))))))))))

abbrev s_is_row : Stmt := top 25
def n_is_row : List Str := ["row"]
theorem sc_is_row : FnScope n_is_row ["row"] (defScope s_is_row) := ⟨rfl, rfl, rfl, by decide +kernel, rfl, by decide +kernel, by decide +kernel⟩
theorem ok_is_row (T : PG g fa fn ex ctx) : FnAt g 42 (He.ga g.c.K "is_row") 1 [] (spP g.c 1 f_is_row) := by
  obtain ⟨fd, FF⟩ := T.c.def_ 7 (d := dd_is_row) rfl
  exact fnAtP FF sc_is_row rfl rfl (fun _ _ _ _ _ _ us hl => match us, hl with | [_], _ => rfl) fun e cg tk hr =>
    have cn := cg.cn (hr.mono (by decide))
    pssa_cons (psa_if (pta_w (pwa_or (pta_not (pta_val (pea_callB call_isiE (cr_isi (kit T)) (T.free 4) (by decide +kernel) (paa_cons (pea_var 0) (paa_cons (pea_ty (T.free 10) (by decide +kernel)) (paa_nil)))))) (pwa_or1 (pta_cmp (op_neC cn) r2_ne (pea_callB call_lenA cr_lenA (T.free 11) (by decide +kernel) (paa_cons (pea_var 0) (paa_nil))) (pea_int))))) (pssa_one (psa_ret (pea_bl))) (pssa_nil))
      (pssa_one (psa_ret (pea_and (pea_call ok_P cg tk (T.glo 13) (ok_is_whole T) (hr.mono (by decide)) (paa_cons (pea_ix rfl (pea_var 0) (pea_int)) (paa_cons (pea_int) (paa_cons (pea_globE (T.int 12) (fun _ _ => .int _)) (paa_nil))))) (pea_one (pea_call ok_P cg tk (T.glo 13) (ok_is_whole T) (hr.mono (by decide)) (paa_cons (pea_ix rfl (pea_var 0) (pea_int)) (paa_cons (pea_int) (paa_cons (pea_globE (T.int 14) (fun _ _ => .int _)) (paa_nil)))))))))

abbrev s_table_of : Stmt := top 26
def n_table_of : List Str := ["rows", "row", "worth", "weight"]
theorem sc_table_of : FnScope n_table_of ["rows"] (defScope s_table_of) := ⟨rfl, rfl, rfl, by decide +kernel, rfl, by decide +kernel, by decide +kernel⟩
theorem ok_table_of (T : PG g fa fn ex ctx) : FnAt g 45 (He.ga g.c.K "table_of") 1 [] (spP g.c 1 f_table_of) := by
  obtain ⟨fd, FF⟩ := T.c.def_ 8 (d := dd_table_of) rfl
  exact fnAtP FF sc_table_of rfl rfl (fun _ _ _ _ _ _ us hl => match us, hl with | [_], _ => rfl) fun e cg tk hr =>
    have cn := cg.cn (hr.mono (by decide))
    pssa_cons (psa_if (pta_w (pwa_or (pta_not (pta_val (pea_callB call_isiE (cr_isi (kit T)) (T.free 4) (by decide +kernel) (paa_cons (pea_var 0) (paa_cons (pea_ty (T.free 7) (by decide +kernel)) (paa_nil)))))) (pwa_or1 (pta_not (pta_chain op_le op_le r2_le r2_le (pea_int) (pea_callB call_lenA cr_lenA (T.free 11) (by decide +kernel) (paa_cons (pea_var 0) (paa_nil))) (pea_globE (T.int 15) (fun _ _ => .int _))))))) (pssa_one (psa_raise cn tk (exOk cg T 16 17))) (pssa_nil))
      (pssa_cons (psa_forE cn (pea_var 0) (pga_nameC (i := 1) cn) (pssa_one (psa_if (pta_not (pta_val (pea_call ok_P cg tk (T.glo 18) (ok_is_row T) (hr.mono (by decide)) (paa_cons (pea_var 1) (paa_nil))))) (pssa_one (psa_raise cn tk (exOk cg T 16 17))) (pssa_nil))))
      (pssa_one (psa_ret (pea_call ok_P cg tk (T.glo 20) (ok_told_form T) (hr.mono (by decide)) (paa_cons (pea_compE false (own := [("worth", 2), ("weight", 3)]) cn (pea_var 0) (blkOk_by (own := [("worth", 2), ("weight", 3)]) (N := n_table_of) (sc := defScope s_table_of) (by decide +kernel)) (by decide) (fun _ _ _ _ _ => pga_un cn.blk (pgsa_cons (pga_nameC (i := 2) cn.blk) (pgsa_cons (pga_nameC (i := 3) cn.blk) (pgsa_nil)))) (fun _ _ _ _ _ => ptsa_nil) (fun _ _ _ _ _ => pea_tup (paa_cons (pea_call ok_P cg.blk tk0 (T.glo 19) (ok_whole T) (hr.mono (by decide)) (paa_cons (pea_var 2) (paa_nil))) (paa_cons (pea_call ok_P cg.blk tk0 (T.glo 19) (ok_whole T) (hr.mono (by decide)) (paa_cons (pea_var 3) (paa_nil))) (paa_nil))))) (paa_nil))))))

abbrev s__law_cell : Stmt := top 28
def n__law_cell : List Str := ["_law_script", "_law_k"]
theorem sc__law_cell : FnScope n__law_cell ["_law_script", "_law_k"] (defScope s__law_cell) := ⟨rfl, rfl, rfl, by decide +kernel, rfl, by decide +kernel, by decide +kernel⟩
theorem ok__law_cell (T : PG g fa fn ex ctx) : FnAt g 41 (He.ga g.c.K "_law_cell") 2 [] (spP g.c 2 f__law_cell) := by
  obtain ⟨fd, FF⟩ := T.c.def_ 9 (d := dd__law_cell) rfl
  exact fnAtP FF sc__law_cell rfl rfl (fun _ _ _ _ _ _ us hl => match us, hl with | [_, _], _ => rfl) fun e cg tk hr =>
    have cn := cg.cn (hr.mono (by decide))
    pssa_cons (psa_if (pta_cmp op_lt r2_lt (pea_var 1) (pea_callB call_lenA cr_lenA (T.free 11) (by decide +kernel) (paa_cons (pea_var 0) (paa_nil)))) (pssa_one (psa_ret (pea_ix rfl (pea_var 0) (pea_var 1)))) (pssa_nil))
      (pssa_one (psa_ret (pea_op op_addA (r2_add false) (pea_op op_mulA r2_mul (pea_int) (pea_var 1)) (pea_int))))

abbrev s__law_mix : Stmt := top 29
def n__law_mix : List Str := ["_law_cell_here", "_law_k", "_law_number"]
theorem sc__law_mix : FnScope n__law_mix ["_law_cell_here", "_law_k"] (defScope s__law_mix) := ⟨rfl, rfl, rfl, by decide +kernel, rfl, by decide +kernel, by decide +kernel⟩
theorem ok__law_mix (T : PG g fa fn ex ctx) : FnAt g 41 (He.ga g.c.K "_law_mix") 2 [] (spP g.c 2 f__law_mix) := by
  obtain ⟨fd, FF⟩ := T.c.def_ 10 (d := dd__law_mix) rfl
  exact fnAtP FF sc__law_mix rfl rfl (fun _ _ _ _ _ _ us hl => match us, hl with | [_, _], _ => rfl) fun e cg tk hr =>
    have cn := cg.cn (hr.mono (by decide))
    pssa_cons (psa_set cn (i := 2) (pea_op op_modN r2_mod (pea_op op_addA (r2_add false) (pea_op op_addA (r2_add false) (pea_op op_mulA r2_mul (pea_op op_modN r2_mod (pea_var 0) (pea_int)) (pea_int)) (pea_op op_mulA r2_mul (pea_int) (pea_var 1))) (pea_int)) (pea_int)))
      (pssa_cons (psa_set cn (i := 2) (pea_op op_modN r2_mod (pea_op op_mulA r2_mul (pea_var 2) (pea_var 2)) (pea_int)))
      (pssa_one (psa_ret (pea_op op_modN r2_mod (pea_op op_mulA r2_mul (pea_var 2) (pea_op op_addA (r2_add false) (pea_var 2) (pea_int))) (pea_int)))))

abbrev s__law_common : Stmt := top 30
def n__law_common : List Str := ["_law_one", "_law_other", "_law_rest"]
theorem sc__law_common : FnScope n__law_common ["_law_one", "_law_other"] (defScope s__law_common) := ⟨rfl, rfl, rfl, by decide +kernel, rfl, by decide +kernel, by decide +kernel⟩
theorem ok__law_common (T : PG g fa fn ex ctx) : FnAt g 41 (He.ga g.c.K "_law_common") 2 [] (spP g.c 2 f__law_common) := by
  obtain ⟨fd, FF⟩ := T.c.def_ 11 (d := dd__law_common) rfl
  exact fnAtP FF sc__law_common rfl rfl (fun _ _ _ _ _ _ us hl => match us, hl with | [_, _], _ => rfl) fun e cg tk hr =>
    have cn := cg.cn (hr.mono (by decide))
    pssa_cons (psa_set cn (i := 0) (pea_callB call_abs cr_abs (T.free 0) (by decide +kernel) (paa_cons (pea_var 0) (paa_nil))))
      (pssa_cons (psa_set cn (i := 1) (pea_callB call_abs cr_abs (T.free 0) (by decide +kernel) (paa_cons (pea_var 1) (paa_nil))))
      (pssa_cons (psa_while cn (natSlot 1) (pta_cmp op_gt r2_gt (pea_var 1) (pea_int)) (pssa_cons (psa_set cn (i := 2) (pea_op op_modN r2_mod (pea_var 0) (pea_var 1)))
      (pssa_cons (psa_set cn (i := 0) (pea_var 1))
      (pssa_one (psa_set cn (i := 1) (pea_var 2))))))
      (pssa_one (psa_ret (pea_var 0)))))

theorem okg__law_common (T : PG g fa fn ex ctx) : FnAt g 41 (He.ga g.c.K "_law_common") 2 [] (spP g.c 2 g__law_common) := g__law_common_eq ▸ ok__law_common T

abbrev s__law_whole : Stmt := top 31
def n__law_whole : List Str := ["_law_found"]
theorem sc__law_whole : FnScope n__law_whole ["_law_found"] (defScope s__law_whole) := ⟨rfl, rfl, rfl, by decide +kernel, rfl, by decide +kernel, by decide +kernel⟩
theorem ok__law_whole (T : PG g fa fn ex ctx) : FnAt g 41 (He.ga g.c.K "_law_whole") 1 [] (spP g.c 1 f__law_whole) := by
  obtain ⟨fd, FF⟩ := T.c.def_ 12 (d := dd__law_whole) rfl
  exact fnAtP FF sc__law_whole rfl rfl (fun _ _ _ _ _ _ us hl => match us, hl with | [_], _ => rfl) fun e cg tk hr =>
    have cn := cg.cn (hr.mono (by decide))
    pssa_one (psa_ret (pea_and (pea_callB call_isiE (cr_isi (kit T)) (T.free 4) (by decide +kernel) (paa_cons (pea_var 0) (paa_cons (pea_ty (T.free 3) (by decide +kernel)) (paa_nil)))) (pea_one (pea_not (pea_callB call_isiE (cr_isi (kit T)) (T.free 4) (by decide +kernel) (paa_cons (pea_var 0) (paa_cons (pea_ty (T.free 5) (by decide +kernel)) (paa_nil))))))))

abbrev s__law_alike : Stmt := top 32
def n__law_alike : List Str := ["_law_found", "_law_due_here", "_law_row"]
theorem sc__law_alike : FnScope n__law_alike ["_law_found", "_law_due_here"] (defScope s__law_alike) := ⟨rfl, rfl, rfl, by decide +kernel, rfl, by decide +kernel, by decide +kernel⟩
theorem ok__law_alike (T : PG g fa fn ex ctx) : FnAt g 42 (He.ga g.c.K "_law_alike") 2 [] (spP g.c 2 f__law_alike) := by
  obtain ⟨fd, FF⟩ := T.c.def_ 13 (d := dd__law_alike) rfl
  exact fnAtP FF sc__law_alike rfl rfl (fun _ _ _ _ _ _ us hl => match us, hl with | [_, _], _ => rfl) fun e cg tk hr =>
    have cn := cg.cn (hr.mono (by decide))
    pssa_cons (psa_if (pta_w (pwa_or (pta_not (pta_val (pea_callB call_isiE (cr_isi (kit T)) (T.free 4) (by decide +kernel) (paa_cons (pea_var 0) (paa_cons (pea_ty (T.free 7) (by decide +kernel)) (paa_nil)))))) (pwa_or1 (pta_cmp (op_neC cn) r2_ne (pea_callB call_lenA cr_lenA (T.free 11) (by decide +kernel) (paa_cons (pea_var 0) (paa_nil))) (pea_callB call_lenA cr_lenA (T.free 11) (by decide +kernel) (paa_cons (pea_var 1) (paa_nil))))))) (pssa_one (psa_ret (pea_bl))) (pssa_nil))
      (pssa_cons (psa_forE cn (pea_var 0) (pga_nameC (i := 2) cn) (pssa_cons (psa_if (pta_w (pwa_or (pta_not (pta_val (pea_callB call_isiE (cr_isi (kit T)) (T.free 4) (by decide +kernel) (paa_cons (pea_var 2) (paa_cons (pea_ty (T.free 10) (by decide +kernel)) (paa_nil)))))) (pwa_or (pta_cmp (op_neC cn) r2_ne (pea_callB call_lenA cr_lenA (T.free 11) (by decide +kernel) (paa_cons (pea_var 2) (paa_nil))) (pea_int)) (pwa_or (pta_not (pta_val (pea_callB call_isiE (cr_isi (kit T)) (T.free 4) (by decide +kernel) (paa_cons (pea_ix rfl (pea_var 2) (pea_int)) (paa_cons (pea_ty (T.free 10) (by decide +kernel)) (paa_nil)))))) (pwa_or1 (pta_cmp (op_neC cn) r2_ne (pea_callB call_lenA cr_lenA (T.free 11) (by decide +kernel) (paa_cons (pea_ix rfl (pea_var 2) (pea_int)) (paa_nil))) (pea_int))))))) (pssa_one (psa_ret (pea_bl))) (pssa_nil))
      (pssa_one (psa_if (pta_w (pwa_or (pta_not (pta_val (pea_call ok_P cg tk (T.glo 21) (ok__law_whole T) (hr.mono (by decide)) (paa_cons (pea_ix rfl (pea_ix rfl (pea_var 2) (pea_int)) (pea_int)) (paa_nil))))) (pwa_or (pta_not (pta_val (pea_call ok_P cg tk (T.glo 21) (ok__law_whole T) (hr.mono (by decide)) (paa_cons (pea_ix rfl (pea_ix rfl (pea_var 2) (pea_int)) (pea_int)) (paa_nil))))) (pwa_or1 (pta_not (pta_val (pea_call ok_P cg tk (T.glo 21) (ok__law_whole T) (hr.mono (by decide)) (paa_cons (pea_ix rfl (pea_var 2) (pea_int)) (paa_nil))))))))) (pssa_one (psa_ret (pea_bl))) (pssa_nil)))))
      (pssa_one (psa_ret (pea_cmp (op_eqC cn) r2_eq (pea_var 0) (pea_var 1)))))

abbrev s__law_rows : Stmt := top 33
def n__law_rows : List Str := ["_law_script", "_law_rows_here", "_law_k", "_law_cell_here", "_law_value"]
theorem sc__law_rows : FnScope n__law_rows ["_law_script"] (defScope s__law_rows) := ⟨rfl, rfl, rfl, by decide +kernel, rfl, by decide +kernel, by decide +kernel⟩
theorem ok__law_rows (T : PG g fa fn ex ctx) : FnAt g 42 (He.ga g.c.K "_law_rows") 1 [] (spP g.c 1 f__law_rows) := by
  obtain ⟨fd, FF⟩ := T.c.def_ 14 (d := dd__law_rows) rfl
  exact fnAtP FF sc__law_rows rfl rfl (fun _ _ _ _ _ _ us hl => match us, hl with | [_], _ => rfl) fun e cg tk hr =>
    have cn := cg.cn (hr.mono (by decide))
    pssa_cons (psa_set cn (i := 1) (pea_lst true (paa_nil)))
      (pssa_cons (psa_for cn (pia_range1 (T.free 23) (paa_cons (pea_op op_addA (r2_add false) (pea_int) (pea_op op_modN r2_mod (pea_call ok_P cg tk (T.glo 22) (ok__law_cell T) (hr.mono (by decide)) (paa_cons (pea_var 0) (paa_cons (pea_int) (paa_nil)))) (pea_int))) (paa_nil))) (pga_nameC (i := 2) cn) (pssa_cons (psa_set cn (i := 3) (pea_call ok_P cg tk (T.glo 22) (ok__law_cell T) (hr.mono (by decide)) (paa_cons (pea_var 0) (paa_cons (pea_op op_addA (r2_add false) (pea_int) (pea_var 2)) (paa_nil)))))
      (pssa_cons (psa_set cn (i := 4) (pea_ix rfl (pea_lst false (paa_cons (pea_op op_modN r2_mod (pea_op (op_fdivA cn) r2_fdiv (pea_var 3) (pea_int)) (pea_int)) (paa_cons (pea_op op_modN r2_mod (pea_op (op_fdivA cn) r2_fdiv (pea_var 3) (pea_int)) (pea_op op_addA (r2_add false) (pea_op op_pow r2_pow (pea_int) (pea_int)) (pea_int))) (paa_nil)))) (pea_callTy call_int1 cr_int (T.free 3) (by decide +kernel) (paa_cons (pea_cmp op_gt r2_gt (pea_op op_modN r2_mod (pea_var 3) (pea_int)) (pea_int)) (paa_nil)))))
      (pssa_one (psa_expr (pea_meth cn PySem.F.slot_list_append PySem.F.type_list_append mt_append mr_append (pea_var 1) (paa_cons (pea_tup (paa_cons (pea_var 4) (paa_cons (pea_op op_addA (r2_add false) (pea_int) (pea_op op_modN r2_mod (pea_op op_addA (r2_add false) (pea_call ok_P cg tk (T.glo 24) (ok__law_mix T) (hr.mono (by decide)) (paa_cons (pea_var 3) (paa_cons (pea_var 2) (paa_nil)))) (pea_op (op_fdivA cn) r2_fdiv (pea_var 3) (pea_op op_pow r2_pow (pea_int) (pea_int)))) (pea_int))) (paa_nil)))) (paa_nil))))))))
      (pssa_one (psa_ret (pea_var 1))))

abbrev s__law_due : Stmt := top 34
def n__law_due : List Str := ["_law_rows_here", "_law_sums", "_law_by", "_law_value", "_law_weight"]
theorem sc__law_due : FnScope n__law_due ["_law_rows_here"] (defScope s__law_due) := ⟨rfl, rfl, rfl, by decide +kernel, rfl, by decide +kernel, by decide +kernel⟩
theorem ok__law_due (T : PG g fa fn ex ctx) : FnAt g 42 (He.ga g.c.K "_law_due") 1 [] (spP g.c 1 f__law_due) := by
  obtain ⟨fd, FF⟩ := T.c.def_ 15 (d := dd__law_due) rfl
  exact fnAtP FF sc__law_due rfl rfl (fun _ _ _ _ _ _ us hl => match us, hl with | [_], _ => rfl) fun e cg tk hr =>
    have cn := cg.cn (hr.mono (by decide))
    pssa_cons (psa_set cn (i := 1) (pea_dictK))
      (pssa_cons (psa_set cn (i := 2) (pea_int))
      (pssa_cons (psa_forE cn (pea_var 0) (pga_un cn (pgsa_cons (pga_nameC (i := 3) cn) (pgsa_cons (pga_nameC (i := 4) cn) (pgsa_nil)))) (pssa_one (psa_kPut cn (pea_op op_addA (r2_add false) (pea_kGet cn (pea_var 1) (pea_var 3) (pea_int)) (pea_var 4)) (pea_var 1) (pea_var 3))))
      (pssa_cons (psa_lockK 1 (psa_for cn (pia_keysK (pea_var 1)) (pga_nameC (i := 3) cn) (pssa_one (psa_set cn (i := 2) (pea_call ok_P cg tk (T.glo 25) (okg__law_common T) (hr.mono (by decide)) (paa_cons (pea_var 2) (paa_cons (pea_kIx cn (pea_var 1) (pea_var 3)) (paa_nil))))))))
      (pssa_one (psa_ret (pea_compE false (own := [("_law_value", 3)]) cn (pea_callB (call_sortedDI cn.calm) (cr_sortedDK false) (T.free 9) (by decide +kernel) (paa_cons (pea_var 1) (paa_nil))) (blkOk_by (own := [("_law_value", 3)]) (N := n__law_due) (sc := defScope s__law_due) (by decide +kernel)) (by decide) (fun _ _ _ _ _ => pga_nameC (i := 3) cn.blk) (fun _ _ _ _ _ => ptsa_nil) (fun _ _ _ _ _ => pea_tup (paa_cons (pea_tup (paa_cons (pea_var 3) (paa_cons (pea_int) (paa_nil)))) (paa_cons (pea_op (op_fdivA cn.blk) r2_fdiv (pea_kIx cn.blk (pea_var 1) (pea_var 3)) (pea_var 2)) (paa_nil))))))))))

abbrev s__law_spoiled : Stmt := top 35
def n__law_spoiled : List Str := ["_law_rows_here", "_law_cell_here", "_law_at", "_law_more", "_law_value", "_law_weight", "_law_some", "_law_row", "_law_bad"]
theorem sc__law_spoiled : FnScope n__law_spoiled ["_law_rows_here", "_law_cell_here"] (defScope s__law_spoiled) := ⟨rfl, rfl, rfl, by decide +kernel, rfl, by decide +kernel, by decide +kernel⟩
theorem ok__law_spoiled (T : PG g fa fn ex ctx) : FnAt g 41 (He.ga g.c.K "_law_spoiled") 2 [] (spP g.c 2 f__law_spoiled) := by
  obtain ⟨fd, FF⟩ := T.c.def_ 16 (d := dd__law_spoiled) rfl
  exact fnAtP FF sc__law_spoiled rfl rfl (fun _ _ _ _ _ _ us hl => match us, hl with | [_, _], _ => rfl) fun e cg tk hr =>
    have cn := cg.cn (hr.mono (by decide))
    pssa_cons (psa_set cn (i := 2) (pea_op op_modN r2_mod (pea_op (op_fdivA cn) r2_fdiv (pea_var 1) (pea_int)) (pea_callB call_lenA cr_lenA (T.free 11) (by decide +kernel) (paa_cons (pea_var 0) (paa_nil)))))
      (pssa_cons (psa_set cn (i := 3) (pea_op (op_fdivA cn) r2_fdiv (pea_var 1) (pea_int)))
      (pssa_cons (psa_asg (pea_ix rfl (pea_var 0) (pea_var 2)) (pga_un cn (pgsa_cons (pga_nameC (i := 4) cn) (pgsa_cons (pga_nameC (i := 5) cn) (pgsa_nil)))))
      (pssa_cons (psa_if (pta_cmp (op_eqC cn) r2_eq (pea_op op_modN r2_mod (pea_var 1) (pea_int)) (pea_int)) (pssa_cons (psa_set cn (i := 6) (pea_lst false (paa_cons (pea_lst false (paa_nil)) (paa_cons (pea_slice false rfl (pea_op op_addA (r2_add false) (pea_op op_addA (r2_add false) (pea_var 0) (pea_var 0)) (pea_op op_rep (r2_rep false) (pea_lst false (paa_cons (pea_ix rfl (pea_var 0) (pea_int)) (paa_nil))) (pea_int))) (poa_none) (poa_some (pea_int))) (paa_cons (pea_callTy call_tuple_of cr_tupleA (T.free 10) (by decide +kernel) (paa_cons (pea_var 0) (paa_nil))) (paa_cons (pea_non) (paa_cons (pea_int) (paa_cons (pea_bl) (paa_cons (pea_str) (paa_cons (pea_dct0) (paa_cons (pea_dct1) (paa_nil))))))))))))
      (pssa_one (psa_ret (pea_ix rfl (pea_var 6) (pea_op op_modN r2_mod (pea_var 3) (pea_int)))))) (pssa_nil))
      (pssa_cons (psa_set cn (i := 7) (pea_ix rfl (pea_lst false (paa_cons (pea_non) (paa_cons (pea_int) (paa_cons (pea_str) (paa_cons (pea_tup (paa_nil)) (paa_cons (pea_tup (paa_cons (pea_var 4) (paa_nil))) (paa_cons (pea_tup (paa_cons (pea_var 4) (paa_cons (pea_var 5) (paa_cons (pea_int) (paa_nil))))) (paa_cons (pea_lst false (paa_cons (pea_var 4) (paa_cons (pea_var 5) (paa_nil)))) (paa_cons (pea_bl) (paa_nil)))))))))) (pea_op op_modN r2_mod (pea_var 3) (pea_int))))
      (pssa_cons (psa_if (pta_cmp (op_eqC cn) r2_eq (pea_op op_modN r2_mod (pea_var 1) (pea_int)) (pea_int)) (pssa_cons (psa_set cn (i := 8) (pea_ix rfl (pea_lst false (paa_cons (pea_neg (pea_int)) (paa_cons (pea_op op_addA (r2_add false) (pea_op op_pow r2_pow (pea_int) (pea_int)) (pea_int)) (paa_cons (pea_op op_addA (r2_add false) (pea_op op_addA (r2_add false) (pea_op op_pow r2_pow (pea_int) (pea_int)) (pea_int)) (pea_op op_modN r2_mod (pea_op (op_fdivA cn) r2_fdiv (pea_var 3) (pea_int)) (pea_op op_pow r2_pow (pea_int) (pea_int)))) (paa_cons (pea_bl) (paa_cons (pea_non) (paa_cons (pea_str) (paa_cons (pea_tup (paa_cons (pea_int) (paa_cons (pea_int) (paa_nil)))) (paa_cons (pea_lst false (paa_cons (pea_int) (paa_nil))) (paa_nil)))))))))) (pea_op op_modN r2_mod (pea_var 3) (pea_int))))
      (pssa_one (psa_set cn (i := 7) (pea_tup (paa_cons (pea_var 8) (paa_cons (pea_var 5) (paa_nil))))))) (pssa_nil))
      (pssa_cons (psa_if (pta_cmp (op_eqC cn) r2_eq (pea_op op_modN r2_mod (pea_var 1) (pea_int)) (pea_int)) (pssa_one (psa_set cn (i := 7) (pea_tup (paa_cons (pea_var 4) (paa_cons (pea_ix rfl (pea_lst false (paa_cons (pea_int) (paa_cons (pea_int) (paa_cons (pea_neg (pea_int)) (paa_cons (pea_bl) (paa_cons (pea_non) (paa_cons (pea_str) (paa_cons (pea_op op_addA (r2_add false) (pea_int) (pea_op op_modN r2_mod (pea_op (op_fdivA cn) r2_fdiv (pea_var 3) (pea_int)) (pea_op op_pow r2_pow (pea_int) (pea_int)))) (paa_cons (pea_tup (paa_cons (pea_int) (paa_cons (pea_int) (paa_nil)))) (paa_nil)))))))))) (pea_op op_modN r2_mod (pea_var 3) (pea_int))) (paa_nil)))))) (pssa_nil))
      (pssa_one (psa_ret (pea_op op_addA (r2_add false) (pea_op op_addA (r2_add false) (pea_slice false rfl (pea_var 0) (poa_none) (poa_some (pea_var 2))) (pea_lst false (paa_cons (pea_var 7) (paa_nil)))) (pea_slice false rfl (pea_var 0) (poa_some (pea_op op_addA (r2_add false) (pea_var 2) (pea_int))) (poa_none)))))))))))

abbrev s__law_refused : Stmt := top 36
def n__law_refused : List Str := ["_law_thing", "_law_kinds", "e"]
theorem sc__law_refused : FnScope n__law_refused ["_law_thing"] (defScope s__law_refused) := ⟨rfl, rfl, rfl, by decide +kernel, rfl, by decide +kernel, by decide +kernel⟩
theorem ok__law_refused (T : PG g fa fn ex ctx) : FnAt g 46 (He.ga g.c.K "_law_refused") 1 [] (spP g.c 1 f__law_refused) := by
  obtain ⟨fd, FF⟩ := T.c.def_ 17 (d := dd__law_refused) rfl
  exact fnAtP FF sc__law_refused rfl rfl (fun _ _ _ _ _ _ us hl => match us, hl with | [_], _ => rfl) fun e cg tk hr =>
    have cn := cg.cn (hr.mono (by decide))
    pssa_cons (psa_set cn (i := 1) (pea_lst true (paa_nil)))
      (pssa_cons (psa_try cn (namesT cg T 38) (fun C h => catch_ok (clsb T) h) (fun W pn xe tk_1 pas1 =>
        pssa_one (psa_expr (pea_call ok_P (cg.tr pas1) tk_1 (T.glo 26) (ok_table_of T) (hr.mono (by decide)) (paa_cons (pea_var 0) (paa_nil))))) (fun a pn =>
        pssa_cons (psa_setS cn (i := 1) (pea_lst true (paa_cons (pea_callB call_isiE (cr_isi (kit T)) (T.free 4) (by decide +kernel) (paa_cons (pea_var 2) (paa_cons (pea_cls (clsS cg T 17)) (paa_nil)))) (paa_cons (pea_callB call_isiE (cr_isi (kit T)) (T.free 4) (by decide +kernel) (paa_cons (pea_var 2) (paa_cons (pea_ty (T.free 31) (by decide +kernel)) (paa_nil)))) (paa_cons (pea_isiT (kit T) (T.free 4) (pea_var 2) (paa_cons (pea_cls (clsS cg T 30)) (paa_cons (pea_cls (clsS cg T 29)) (paa_cons (pea_cls (clsS cg T 28)) (paa_cons (pea_cls (clsS cg T 27)) (paa_nil)))))) (paa_nil))))))
      (pssa_one (psa_expr (pea_methS cn PySem.F.slot_list_append PySem.F.type_list_append mt_append mr_append (pea_var 1) (paa_cons (pea_isiT (kit T) (T.free 4) (pea_var 2) (paa_cons (pea_cls (clsS cg T 37)) (paa_cons (pea_cls (clsS cg T 36)) (paa_cons (pea_cls (clsS cg T 35)) (paa_cons (pea_cls (clsS cg T 34)) (paa_cons (pea_cls (clsS cg T 33)) (paa_cons (pea_cls (clsS cg T 32)) (paa_nil)))))))) (paa_nil)))))))
      (pssa_one (psa_ret (pea_cmp (op_eqC cn) r2_eq (pea_var 1) (pea_lst false (paa_cons (pea_bl) (paa_cons (pea_bl) (paa_cons (pea_bl) (paa_cons (pea_bl) (paa_nil))))))))))

abbrev s_law : Stmt := top 37
def n_law : List Str := ["_law_script", "_law_rows_here", "_law_handed", "_law_due_here", "_law_found", "_law_kept"]
theorem sc_law : FnScope n_law ["_law_script"] (defScope s_law) := ⟨rfl, rfl, rfl, by decide +kernel, rfl, by decide +kernel, by decide +kernel⟩
theorem ok_law (T : PG g fa fn ex ctx) : FnAt g 47 (He.ga g.c.K "law") 1 [] (spP g.c 1 f_law) := by
  obtain ⟨fd, FF⟩ := T.c.def_ 18 (d := dd_law) rfl
  exact fnAtP FF sc_law rfl rfl (fun _ _ _ _ _ _ us hl => match us, hl with | [_], _ => rfl) fun e cg tk hr =>
    have cn := cg.cn (hr.mono (by decide))
    pssa_cons (psa_set cn (i := 1) (pea_call ok_P cg tk (T.glo 39) (ok__law_rows T) (hr.mono (by decide)) (paa_cons (pea_var 0) (paa_nil))))
      (pssa_cons (psa_if (pta_cmp (op_eqC cn) r2_eq (pea_op op_modN r2_mod (pea_call ok_P cg tk (T.glo 22) (ok__law_cell T) (hr.mono (by decide)) (paa_cons (pea_var 0) (paa_cons (pea_int) (paa_nil)))) (pea_int)) (pea_int)) (pssa_one (psa_ret (pea_call ok_P cg tk (T.glo 41) (ok__law_refused T) (hr.mono (by decide)) (paa_cons (pea_call ok_P cg tk (T.glo 40) (ok__law_spoiled T) (hr.mono (by decide)) (paa_cons (pea_var 1) (paa_cons (pea_call ok_P cg tk (T.glo 24) (ok__law_mix T) (hr.mono (by decide)) (paa_cons (pea_call ok_P cg tk (T.glo 22) (ok__law_cell T) (hr.mono (by decide)) (paa_cons (pea_var 0) (paa_cons (pea_int) (paa_nil)))) (paa_cons (pea_int) (paa_nil)))) (paa_nil)))) (paa_nil))))) (pssa_nil))
      (pssa_cons (psa_set cn (i := 2) (pea_callTy call_list_of (cr_listA true) (T.free 7) (by decide +kernel) (paa_cons (pea_var 1) (paa_nil))))
      (pssa_cons (psa_set cn (i := 3) (pea_call ok_P cg tk (T.glo 42) (ok__law_due T) (hr.mono (by decide)) (paa_cons (pea_var 1) (paa_nil))))
      (pssa_cons (psa_set cn (i := 4) (pea_call ok_U cg tk (T.glo 26) (ok_table_of T) (hr.mono (by decide)) (paa_cons (pea_var 2) (paa_nil))))
      (pssa_cons (psa_if (pta_w (pwa_or (pta_not (pta_val (pea_call ok_P cg tk (T.glo 43) (ok__law_alike T) (hr.mono (by decide)) (paa_cons (pea_var 4) (paa_cons (pea_var 3) (paa_nil)))))) (pwa_or1 (pta_cmp (op_neC cn) r2_ne (pea_var 2) (pea_var 1))))) (pssa_one (psa_ret (pea_bl))) (pssa_nil))
      (pssa_cons (psa_expr (pea_meth cn PySem.F.slot_list_append PySem.F.type_list_append mt_append mr_append (pea_var 2) (paa_cons (pea_tup (paa_cons (pea_int) (paa_cons (pea_int) (paa_nil)))) (paa_nil))))
      (pssa_cons (psa_set cn (i := 5) (pea_callTy call_list_of (cr_listA false) (T.free 7) (by decide +kernel) (paa_cons (pea_var 4) (paa_nil))))
      (pssa_cons (psa_expr (pea_meth0 cn PySem.F.slot_list_clear PySem.F.type_list_clear mt_clear mr_clear (pea_var 4)))
      (pssa_one (psa_ret (pea_and (pea_call ok_P cg tk (T.glo 43) (ok__law_alike T) (hr.mono (by decide)) (paa_cons (pea_call ok_P cg tk (T.glo 26) (ok_table_of T) (hr.mono (by decide)) (paa_cons (pea_var 1) (paa_nil))) (paa_cons (pea_var 3) (paa_nil)))) (pea_one (pea_cmp (op_eqC cn) r2_eq (pea_var 5) (pea_var 3))))))))))))))

end
abbrev R : PySem.W.OpenRow := PySem.W.OpenLaw.row PySem.Challenge.rw_lidprice_k02_tables_made
abbrev hk : PySem.W.Hook := hookB 6 fa fn ex (tfl.map (·.1))
def ob (s : PySem.W.SharedT) : AlB := obsB 6 fa fn ex (tfl.map (·.1)) (HandSHeadRun.getT s)
theorem ob_eq (s : PySem.W.SharedT) : ob s = hk.obs s.abs := obsB_eq (HandSHeadRun.getT_eq s)
def loose : List Str := (["LidError", "NoTable", "NoBox", "NoDeed", "NoSets", "NoOffers", "NoRule", "NoRanks", "NoText", "NoPattern", "NoPlan", "TooMany", "divisor", "share", "whole", "plus", "MOST_ROWS", "MOST_WORTH", "MOST_WEIGHT", "is_whole"] : List Str) ++ (["common_bottom", "told_form", "is_row", "table_of", "_law_cell", "_law_mix", "_law_common", "_law_whole", "_law_alike", "_law_rows", "_law_due", "_law_spoiled", "_law_refused"] : List Str)
theorem run (w : World) : HandSHeadRun.RunEq R (PySem.W.view R.prog [37]) hk ob 4000 loose w := by
  intro os
  kernel_rfl
end Law
section
open PySem PySem.W PySem.Calls PyProof.Rows
theorem Law.holds_of (hden : ∀ ns : List Int, ns.length ≤ 63 → ∃ fr, Law.f_law [.scr ns] = .ok (.bl true) fr) : PySem.Challenge.rw_lidprice_k02_tables_made.Holds := by
  w_on; o_law
  refine HandSHeadRun.head_any (r := OpenLaw.row PySem.Challenge.rw_lidprice_k02_tables_made) (q := view (OpenLaw.row PySem.Challenge.rw_lidprice_k02_tables_made).prog [37]) (H := Law.hk) (ob := Law.ob) (M := 4000) (loose := Law.loose) (d := HandSHeadRun.topDef (OpenLaw.row PySem.Challenge.rw_lidprice_k02_tables_made).prog 37) (kwd := []) Law.ob_eq
    (by kernel_rfl) (fun s => by kernel_rfl) Law.run (by kernel_rfl) (by kernel_rfl) (by kernel_rfl) (by rfl) (by first | assumption | decide +kernel) (by decide +kernel) ⟨rfl, rfl, rfl, rfl, rfl, by decide +kernel⟩ ?hw ?hc
  case hw => w_witness2
  case hc =>
    refine A.walk_ofS (l := PySem.Challenge.rw_lidprice_k02_tables_made) (n := 63) (k := 47) (den := Law.f_law) rfl (by decide) (by kernel_rfl) ⟨rfl, by decide, by decide⟩ (by kernel_rfl) rfl hden ?F
    intro w mg fa h Y G hmg0
    obtain ⟨K, KX, c⟩ := Y
    have hmg : mg ("law" : PySem.Str) = some (.ref fa) := by
      have e : (HandSHeadRun.topDef (OpenLaw.row PySem.Challenge.rw_lidprice_k02_tables_made).prog 37).name = ("law" : PySem.Str) := by kernel_rfl
      rw [← e]
      exact hmg0
    have e := hmg.symm.trans (He.glo_ok KX G (c.c.fact 44 (f := .glo "law") rfl))
    cases e
    exact ⟨Law.ctx K, KX, c.tabs (c := Law.ctx K) KX rfl, fun base no tb kb nb => Law.ok_law ⟨⟨c.c, kb, nb⟩, c.more, rfl⟩⟩
end


theorem PySem.Challenge.cw_lidprice_k02_tables_made_holds : PySem.Challenge.rw_lidprice_k02_tables_made.Holds := by
  exact Law.holds_of fun ns hl => by first | exact Law.den ns | exact Law.den ns hl
