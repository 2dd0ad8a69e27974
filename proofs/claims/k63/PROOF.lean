import PyProof.Rows.All
import HandS.ForMost
import HandS.ForExc
import HandS.Defaults
import HandS.Deep
import HandS.IsInst
import HandS.SortInts
import HandS.TupAny
import KE.KStateDown
import HandS.Head0
import HandS.Head1
import HandS.Head2
import HandS.HeadEnd
import HandS.HeadHook1
import HandS.HeadHook2
import HandS.Small
import HandS.Dict
import HandS.Zip
import HandS.Rev
import HandS.Conv
import HandS.RevTup
import PyProof.ListRange
import HandS.TryOnly
import PySem.Challenge.RW_lidprice_k63_rows_that_add_up
set_option Elab.async false
set_option linter.all false
set_option maxRecDepth 100000
set_option maxHeartbeats 0
/-! The A-layer, part 0: abstract values, stores, their relation to the hand layer's heap. -/
namespace A
open PySem PySem.Spec PyProof.Rows L2
abbrev St := L2.St

/-- a value as data: tuples, lists, dicts and objects that nobody changes any more (t: safe, else lent) -/
inductive PV where
  | non | bl (b : Bool) | int (i : Int) | str (x : Str)
  | tup (xs : List PV)
  | lst (t : Bool) (xs : List PV)
  | dct (t : Bool) (ks : List Key) (xs : List PV)
  | obj (t : Bool) (C : Nat) (fs : List Nat) (xs : List PV)
  /-- the script itself -/
  | scr (ns : List Int)
  /-- a built-in class, an own class -/
  | ty (n : String)
  | cls (C : Nat)
instance : Inhabited PV := ⟨.non⟩
/-- what a name holds: data (fr: a list made in this activation), or a place of the store -/
inductive AV where
  | v (p : PV) (fr : Bool)
  | ref (n : Nat)
instance : Inhabited AV := ⟨.v .non false⟩
/-- what stands in the store -/
inductive AO where
  | lst (xs : List AV)
  | dK (kvs : List (Key × AV))
  | dT (kvs : List (List Key × AV))
  | ins (C : Nat) (fs : List (Nat × AV))
abbrev Store := List AO
abbrev Slots := List (Option AV)
/-- an error: its class, its fields -/
structure AE where
  C : Nat
  fs : List (Nat × PV)
/-- what an expression comes to -/
inductive Res (α : Type) where
  | ok (a : α) (st : Store)
  | ex (e : AE) (st : Store)
  | bad
inductive Flow where
  | nx (σ : Slots) (st : Store)
  | bk (σ : Slots) (st : Store)
  | ct (σ : Slots) (st : Store)
  | rt (v : AV) (st : Store)
  | ex (e : AE) (σ : Slots) (st : Store)
  | bad
/-- what a pure def comes to -/
inductive PRes where
  | ok (p : PV) (fr : Bool)
  | ex (e : AE)
  | bad
abbrev DE := Slots → Store → Res AV
abbrev DA := Slots → Store → Res (List AV)
abbrev DT := Slots → Store → Res Bool
abbrev DS := Slots → Store → Flow
abbrev PDen := List PV → PRes
abbrev IDen := List AV → Store → Res AV

/-- the program's constants at K: where a class stands, the fields' names -/
structure Ct where
  K : PySem.W.Frag
  ca : Nat → Addr
  names : List Str
  nd : names.Nodup
  hs : ("#" : Str) ∉ names
def Ct.fn (c : Ct) (f : Nat) : Str := c.names.getD f "#"
theorem Ct.fn_inj (c : Ct) {g f : Nat} (hf : f < c.names.length) (e : c.fn g = c.fn f) : g = f := by
  unfold Ct.fn at e
  rw [List.getD_eq_getElem?_getD, List.getD_eq_getElem?_getD, List.getElem?_eq_getElem hf] at e
  by_cases hg : g < c.names.length
  · rw [List.getElem?_eq_getElem hg] at e
    exact (List.getElem_inj c.nd).mp e
  · rw [List.getElem?_eq_none_iff.mpr (by omega)] at e
    exact absurd (by rw [show ("#" : Str) = c.names[f] from e]; exact List.getElem_mem hf) c.hs

def isMut : HO → Bool
  | .lst _ => true
  | .dK _ => true
  | .dT _ => true
  | .ins _ _ _ => true
  | _ => false
mutual
inductive Val (c : Ct) (L : Bool → Addr → Prop) (H : Hp) : PV → V → Prop
  | non : Val c L H .non .non
  | bl (b : Bool) : Val c L H (.bl b) (.bl b)
  | int (i : Int) : Val c L H (.int i) (.int i)
  | str (x : Str) : Val c L H (.str x) (.str x)
  | tup {a : Addr} {xs : List PV} {vs : List V} : SqT c.K H a vs → Vls c L H xs vs → Val c L H (.tup xs) (.ref a)
  | lst {t : Bool} {a : Addr} {xs : List PV} {vs : List V} : H a = some (.lst vs) → L t a → Vls c L H xs vs → Val c L H (.lst t xs) (.ref a)
  | dct {t : Bool} {a : Addr} {ks : List Key} {xs : List PV} {vs : List V} : H a = some (.dK (ks.zip vs)) → vs.length = ks.length → L t a → Vls c L H xs vs → Val c L H (.dct t ks xs) (.ref a)
  | obj {t : Bool} {C : Nat} {a dx : Addr} {fs : List Nat} {xs : List PV} {vs : List V} : H a = some (.ins (c.ca C) dx ((fs.map c.fn).zip vs)) → vs.length = fs.length → L t a → Vls c L H xs vs → Val c L H (.obj t C fs xs) (.ref a)
  | scr {a : Addr} {ns : List Int} : ((∃ o, H a = some (.frz o (.lst (ns.map V.int)))) ∨ SqL c.K (fun _ => none) a (ns.map V.int)) → Val c L H (.scr ns) (.ref a)
  | ty (n : String) : Val c L H (.ty n) (.ty n)
  | cls (C : Nat) : Val c L H (.cls C) (.ref (c.ca C))
inductive Vls (c : Ct) (L : Bool → Addr → Prop) (H : Hp) : List PV → List V → Prop
  | nil : Vls c L H [] []
  | cons {x : PV} {v : V} {xs : List PV} {vs : List V} : Val c L H x v → Vls c L H xs vs → Vls c L H (x :: xs) (v :: vs)
end

section
variable {c : Ct} {L L' : Bool → Addr → Prop} {H H' : Hp}
theorem rd_imm (ki : ∀ a o, H a = some o → isMut o = false → H' a = some o) {a : Addr} {vs : List V} (h : Rd H a (.tup vs)) : Rd H' a (.tup vs) := by
  rcases h with h | ⟨o, h⟩
  · exact .inl (ki _ _ h rfl)
  · exact .inr ⟨o, ki _ _ h rfl⟩
theorem sqT_imm {K : PySem.W.Frag} (ki : ∀ a o, H a = some o → isMut o = false → H' a = some o) {a : Addr} {vs : List V} (h : SqT K H a vs) : SqT K H' a vs := by
  rcases h with h | h
  · exact .inl (rd_imm ki h)
  · exact .inr h
theorem some_ne {H : Hp} {a : Addr} {o : HO} (h : H a = some o) : H a ≠ none := by rw [h]; simp
mutual
theorem Val.mono (ki : ∀ a o, H a = some o → isMut o = false → H' a = some o) (kl : ∀ t a o, L t a → H a = some o → H' a = some o) (kL : ∀ t a, L t a → H a ≠ none → L' t a) :
    ∀ {p : PV} {v : V}, Val c L H p v → Val c L' H' p v
  | _, _, .non => .non
  | _, _, .bl b => .bl b
  | _, _, .int i => .int i
  | _, _, .str x => .str x
  | _, _, .tup h r => .tup (sqT_imm ki h) (Vls.mono ki kl kL r)
  | _, _, .lst h l r => .lst (kl _ _ _ l h) (kL _ _ l (some_ne h)) (Vls.mono ki kl kL r)
  | _, _, .dct h z l r => .dct (kl _ _ _ l h) z (kL _ _ l (some_ne h)) (Vls.mono ki kl kL r)
  | _, _, .obj h z l r => .obj (kl _ _ _ l h) z (kL _ _ l (some_ne h)) (Vls.mono ki kl kL r)
  | _, _, .scr h => .scr (by
      rcases h with ⟨o, h⟩ | h
      · exact .inl ⟨o, ki _ _ h rfl⟩
      · exact .inr h)
  | _, _, .ty n => .ty n
  | _, _, .cls C => .cls C
theorem Vls.mono (ki : ∀ a o, H a = some o → isMut o = false → H' a = some o) (kl : ∀ t a o, L t a → H a = some o → H' a = some o) (kL : ∀ t a, L t a → H a ≠ none → L' t a) :
    ∀ {ps : List PV} {vs : List V}, Vls c L H ps vs → Vls c L' H' ps vs
  | _, _, .nil => .nil
  | _, _, .cons h r => .cons (Val.mono ki kl kL h) (Vls.mono ki kl kL r)
end
/-- the same heap, another ground -/
theorem Val.ground (kL : ∀ t a, L t a → H a ≠ none → L' t a) {p : PV} {v : V} (h : Val c L H p v) : Val c L' H p v := Val.mono (fun _ _ h _ => h) (fun _ _ _ _ h => h) kL h
theorem Vls.ground (kL : ∀ t a, L t a → H a ≠ none → L' t a) {p : List PV} {v : List V} (h : Vls c L H p v) : Vls c L' H p v := Vls.mono (fun _ _ h _ => h) (fun _ _ _ _ h => h) kL h
theorem Vls.length : ∀ {ps : List PV} {vs : List V}, Vls c L H ps vs → ps.length = vs.length
  | _, _, .nil => rfl
  | _, _, .cons _ r => congrArg (· + 1) (Vls.length r)
theorem Vls.get : ∀ {ps : List PV} {vs : List V}, Vls c L H ps vs → ∀ {i : Nat} {p : PV}, ps[i]? = some p → ∃ v, vs[i]? = some v ∧ Val c L H p v
  | _, _, .nil, i, p, e => by simp at e
  | _, _, .cons h r, 0, p, e => by simp at e; subst e; exact ⟨_, rfl, h⟩
  | _, _, .cons h r, i + 1, p, e => by simpa using Vls.get r (i := i) (p := p) (by simpa using e)
theorem Vls.append : ∀ {ps qs : List PV} {vs us : List V}, Vls c L H ps vs → Vls c L H qs us → Vls c L H (ps ++ qs) (vs ++ us)
  | _, _, _, _, .nil, s => s
  | _, _, _, _, .cons h r, s => .cons h (Vls.append r s)
theorem Vls.drop : ∀ {ps : List PV} {vs : List V} (n : Nat), Vls c L H ps vs → Vls c L H (ps.drop n) (vs.drop n)
  | _, _, 0, r => r
  | _, _, _ + 1, .nil => .nil
  | _, _, n + 1, .cons _ r => Vls.drop n r
theorem Vls.take : ∀ {ps : List PV} {vs : List V} (n : Nat), Vls c L H ps vs → Vls c L H (ps.take n) (vs.take n)
  | _, _, 0, _ => .nil
  | _, _, _ + 1, .nil => .nil
  | _, _, n + 1, .cons h r => .cons h (Vls.take n r)
theorem Vls.reverse : ∀ {ps : List PV} {vs : List V}, Vls c L H ps vs → Vls c L H ps.reverse vs.reverse
  | _, _, .nil => .nil
  | _, _, .cons h r => by
    rw [List.reverse_cons, List.reverse_cons]
    exact Vls.append (Vls.reverse r) (.cons h .nil)
end

/-! ### the frame's constants -/
structure Fix where
  c : Ct
  A : Addr → Prop
  B : Addr → Prop
  /-- besides the store: what no value may name -/
  Z : Addr → Prop
  H0 : Hp
  O0 : Addr → Prop
  hA : ∀ p, H0 p = none → A p
abbrev LL (A B : Addr → Prop) : Bool → Addr → Prop := fun t a => if t = true then A a else B a
/-- which lists and objects a value may name -/
def Lw (F : Fix) (m : Nat → Addr) (N : Nat) : Bool → Addr → Prop := fun t a => LL F.A F.B t a ∧ ¬ F.Z a ∧ ∀ i, i < N → m i ≠ a
/-- a list made since H0 -/
def FreshP (c : Ct) (L : Bool → Addr → Prop) (H0 H : Hp) (p : PV) (v : V) : Prop :=
  ∃ t xs a vs, p = .lst t xs ∧ v = .ref a ∧ H0 a = none ∧ H a = some (.lst vs) ∧ Vls c (fun t b => L t b ∧ b ≠ a) H xs vs
/-- a value, whether fresh or not -/
inductive AVal0 (F : Fix) (m : Nat → Addr) (N : Nat) (H : Hp) : AV → V → Prop
  | v {p : PV} {fr : Bool} {x : V} : Val F.c (Lw F m N) H p x → AVal0 F m N H (.v p fr) x
  | ref {n : Nat} : n < N → AVal0 F m N H (.ref n) (.ref (m n))
inductive AVal (F : Fix) (m : Nat → Addr) (N : Nat) (H : Hp) : AV → V → Prop
  | v {p : PV} {fr : Bool} {x : V} : Val F.c (Lw F m N) H p x → (fr = true → FreshP F.c (Lw F m N) F.H0 H p x) → AVal F m N H (.v p fr) x
  | ref {n : Nat} : n < N → AVal F m N H (.ref n) (.ref (m n))
theorem AVal.zero {F : Fix} {m : Nat → Addr} {N : Nat} {H : Hp} {x : AV} {v : V} (h : AVal F m N H x v) : AVal0 F m N H x v := by
  cases h with
  | v h _ => exact .v h
  | ref h => exact .ref h
abbrev AVls (F : Fix) (m : Nat → Addr) (N : Nat) (H : Hp) : List AV → List V → Prop := Paired (AVal F m N H)
abbrev AVls0 (F : Fix) (m : Nat → Addr) (N : Nat) (H : Hp) : List AV → List V → Prop := Paired (AVal0 F m N H)
inductive AObj (F : Fix) (m : Nat → Addr) (N : Nat) (H : Hp) : AO → HO → Prop
  | lst {xs : List AV} {vs : List V} : AVls0 F m N H xs vs → AObj F m N H (.lst xs) (.lst vs)
  | dK {kvs : List (Key × AV)} {us : List (Key × V)} : Paired (fun p q => p.1 = q.1 ∧ AVal0 F m N H p.2 q.2) kvs us → AObj F m N H (.dK kvs) (.dK us)
  | dT {kvs : List (List Key × AV)} {us : List (List Key × V)} : Paired (fun p q => p.1 = q.1 ∧ AVal0 F m N H p.2 q.2) kvs us → AObj F m N H (.dT kvs) (.dT us)
  | ins {C : Nat} {dx : Addr} {fs : List (Nat × AV)} {us : List (Str × V)} : Paired (fun (p : Nat × AV) (q : Str × V) => F.c.fn p.1 = q.1 ∧ AVal0 F m N H p.2 q.2) fs us → AObj F m N H (.ins C fs) (.ins (F.c.ca C) dx us)
theorem AObj.mut {F : Fix} {m : Nat → Addr} {N : Nat} {H : Hp} {o : AO} {u : HO} (h : AObj F m N H o u) : isMut u = true := by cases h <;> rfl

structure Rel (F : Fix) (m : Nat → Addr) (st : Store) (S : Slots) (σ : St) (H : Hp) : Prop where
  inj : ∀ i j, i < st.length → j < st.length → m i = m j → i = j
  own : ∀ i, i < st.length → F.O0 (m i) ∨ F.H0 (m i) = none
  keep : ∀ b o, F.H0 b = some o → ¬ F.O0 b → H b = some o
  imm : ∀ b o, F.H0 b = some o → isMut o = false → H b = some o
  dom : ∀ b, F.H0 b ≠ none → H b ≠ none
  zd : ∀ b, F.Z b → H b ≠ none ∧ ∀ i, i < st.length → m i ≠ b
  sto : ∀ i o, st[i]? = some o → ∃ u, H (m i) = some u ∧ AObj F m st.length H o u
  len : S.length = σ.length
  slo : ∀ (i : Nat) (x : AV), S[i]? = some (some x) → ∃ v, σ[i]? = some (some v) ∧ AVal F m st.length H x v
/-- from one state to a later one -/
structure Step (m : Nat → Addr) (N : Nat) (H : Hp) (m' : Nat → Addr) (N' : Nat) (H' : Hp) : Prop where
  le : N ≤ N'
  same : ∀ i, i < N → m' i = m i
  new : ∀ i, N ≤ i → i < N' → H (m' i) = none
  keep : ∀ b o, H b = some o → (∀ i, i < N → m i ≠ b) → H' b = some o
  dom : ∀ b, H b ≠ none → H' b ≠ none
  imm : ∀ b o, H b = some o → isMut o = false → H' b = some o

section
variable {F : Fix} {m m1 m2 m' : Nat → Addr} {N N1 N2 N' : Nat} {H H1 H2 H' : Hp} {st : Store} {S : Slots} {σ : St}
theorem Step.refl : Step m N H m N H := ⟨Nat.le_refl _, fun _ _ => rfl, fun i h1 h2 => absurd h2 (by omega), fun _ _ h _ => h, fun _ h => h, fun _ _ h _ => h⟩
theorem Step.trans (a : Step m N H m1 N1 H1) (b : Step m1 N1 H1 m2 N2 H2) : Step m N H m2 N2 H2 where
  le := Nat.le_trans a.le b.le
  same := fun i h => (b.same i (Nat.lt_of_lt_of_le h a.le)).trans (a.same i h)
  new := fun i h1 h2 => by
    by_cases h : i < N1
    · rw [b.same i h]; exact a.new i h1 h
    · have z := b.new i (by omega) h2
      cases e : H (m2 i) with
      | none => rfl
      | some o => exact absurd z (a.dom _ (by rw [e]; simp))
  keep := fun x o h k => b.keep x o (a.keep x o h k) fun i hi z => by
    by_cases h' : i < N
    · exact k i h' ((a.same i h').symm.trans z)
    · have := a.new i (by omega) hi
      rw [z, h] at this; cases this
  dom := fun x h => b.dom x (a.dom x h)
  imm := fun x o h q => b.imm x o (a.imm x o h q) q
theorem Step.of (s : Same H H') : Step m N H m N H' :=
  ⟨Nat.le_refl _, fun _ _ => rfl, fun i h1 h2 => absurd h2 (by omega), fun b o h _ => s b o h, fun b h => by
    cases e : H b with
    | none => exact absurd e h
    | some o => exact some_ne (s b o e), fun b o h _ => s b o h⟩
theorem same_upd {p : Addr} {o : HO} (hp : H p = none) : Same H (upd H p o) := fun b u h => by rw [upd_ne (ne_of_none h hp)]; exact h

/-- values are kept by a step -/
theorem Lw.step (s : Step m N H m' N' H') {t : Bool} {a : Addr} (h : Lw F m N t a) (e : H a ≠ none) : Lw F m' N' t a := by
  refine ⟨h.1, h.2.1, fun i hi z => ?_⟩
  by_cases q : i < N
  · exact h.2.2 i q ((s.same i q).symm.trans z)
  · exact e (by rw [← z]; exact s.new i (by omega) hi)
theorem Val.step (s : Step m N H m' N' H') {p : PV} {v : V} (h : Val F.c (Lw F m N) H p v) : Val F.c (Lw F m' N') H' p v :=
  Val.mono s.imm (fun t a o l e => s.keep a o e l.2.2) (fun t a l e => Lw.step s l e) h
theorem Vls.step (s : Step m N H m' N' H') {p : List PV} {v : List V} (h : Vls F.c (Lw F m N) H p v) : Vls F.c (Lw F m' N') H' p v :=
  Vls.mono s.imm (fun t a o l e => s.keep a o e l.2.2) (fun t a l e => Lw.step s l e) h
theorem Val.lst_L {c : Ct} {L : Bool → Addr → Prop} {H : Hp} {t : Bool} {xs : List PV} {a : Addr} (h : Val c L H (.lst t xs) (.ref a)) : L t a := by
  cases h with
  | lst _ l _ => exact l
theorem AVal0.step (s : Step m N H m' N' H') {x : AV} {v : V} (h : AVal0 F m N H x v) : AVal0 F m' N' H' x v := by
  cases h with
  | v h => exact .v (Val.step s h)
  | ref h =>
    rw [← s.same _ h]
    exact .ref (Nat.lt_of_lt_of_le h s.le)
theorem AVal.step (s : Step m N H m' N' H') {x : AV} {v : V} (h : AVal F m N H x v) : AVal F m' N' H' x v := by
  cases h with
  | v h f =>
    refine .v (Val.step s h) fun e => ?_
    obtain ⟨t, xs, a, vs, rfl, rfl, h0, ha, r⟩ := f e
    have la := Val.lst_L h
    exact ⟨t, xs, a, vs, rfl, rfl, h0, s.keep a _ ha la.2.2, Vls.mono s.imm (fun t a o l e => s.keep a o e l.1.2.2) (fun t a l e => ⟨Lw.step s l.1 e, l.2⟩) r⟩
  | ref h =>
    rw [← s.same _ h]
    exact .ref (Nat.lt_of_lt_of_le h s.le)
theorem AVls.step (s : Step m N H m' N' H') {xs : List AV} {vs : List V} (h : AVls F m N H xs vs) : AVls F m' N' H' xs vs := Paired.mapP h fun _ _ => AVal.step s
theorem AVls0.step (s : Step m N H m' N' H') {xs : List AV} {vs : List V} (h : AVls0 F m N H xs vs) : AVls0 F m' N' H' xs vs := Paired.mapP h fun _ _ => AVal0.step s
theorem AVls.zero {xs : List AV} {vs : List V} (h : AVls F m N H xs vs) : AVls0 F m N H xs vs := Paired.mapP h fun _ _ => AVal.zero
theorem AObj.step (s : Step m N H m' N' H') {o : AO} {u : HO} (h : AObj F m N H o u) : AObj F m' N' H' o u := by
  cases h with
  | lst h => exact .lst (AVls0.step s h)
  | dK h => exact .dK (Paired.mapP h fun a b z => ⟨z.1, AVal0.step s z.2⟩)
  | dT h => exact .dT (Paired.mapP h fun a b z => ⟨z.1, AVal0.step s z.2⟩)
  | ins h => exact .ins (Paired.mapP h fun a b z => ⟨z.1, AVal0.step s z.2⟩)
/-- the same state at a later heap where all is kept -/
theorem Rel.same (R : Rel F m st S σ H) (s : Same H H') : Rel F m st S σ H' where
  inj := R.inj
  own := R.own
  keep := fun b o h1 h2 => s b o (R.keep b o h1 h2)
  imm := fun b o h1 h2 => s b o (R.imm b o h1 h2)
  dom := fun b h => (Step.of (m := m) (N := 0) s).dom b (R.dom b h)
  zd := fun b h => ⟨(Step.of (m := m) (N := 0) s).dom b (R.zd b h).1, (R.zd b h).2⟩
  sto := fun i o e => by
    obtain ⟨u, h1, h2⟩ := R.sto i o e
    exact ⟨u, s _ _ h1, AObj.step (Step.of s) h2⟩
  len := R.len
  slo := fun i x e => by
    obtain ⟨v, h1, h2⟩ := R.slo i x e
    exact ⟨v, h1, AVal.step (Step.of s) h2⟩
theorem Rel.at (R : Rel F m st S σ H) {i : Nat} (hi : i < st.length) : ∃ u, H (m i) = some u ∧ AObj F m st.length H st[i] u := R.sto i _ (List.getElem?_eq_getElem hi)
theorem Rel.nb (R : Rel F m st S σ H) {p : Addr} (hp : H p = none) : ∀ i, i < st.length → m i ≠ p := fun i hi z => by
  obtain ⟨u, h1, _⟩ := R.at hi
  rw [z, hp] at h1; cases h1
theorem Rel.h0 (R : Rel F m st S σ H) {p : Addr} (hp : H p = none) : F.H0 p = none := by
  cases e : F.H0 p with
  | none => rfl
  | some o => exact absurd hp (R.dom p (by rw [e]; simp))
theorem Rel.free (R : Rel F m st S σ H) {p : Addr} (hp : H p = none) : Lw F m st.length true p := by
  refine ⟨?_, fun z => (R.zd p z).1 hp, R.nb hp⟩
  show if true = true then F.A p else F.B p
  rw [if_pos rfl]; exact F.hA p (R.h0 hp)
/-- a new place of the store: the object at p, which was not there -/
theorem Rel.push (R : Rel F m st S σ H) {p : Addr} {o : AO} {u : HO} (hp : H p = none) (s : Same H H') (hu : H' p = some u)
    (ho : ∀ m', Step m st.length H m' (st.length + 1) H' → m' st.length = p → AObj F m' (st.length + 1) H' o u) :
    ∃ m', Step m st.length H m' (st ++ [o]).length H' ∧ Rel F m' (st ++ [o]) S σ H' ∧ m' st.length = p := by
  have hm : ∀ i, i < st.length → (fun j => if j = st.length then p else m j) i = m i := fun i hi => if_neg (by omega)
  have hme : (fun j => if j = st.length then p else m j) st.length = p := if_pos rfl
  generalize hmm : (fun j => if j = st.length then p else m j) = m' at hm hme
  have so := Step.of (m := m) (N := st.length) s
  have hs : Step m st.length H m' (st.length + 1) H' := by
    refine ⟨Nat.le_succ _, hm, fun i h1 h2 => ?_, so.keep, so.dom, so.imm⟩
    have : i = st.length := by omega
    subst this; rw [hme]; exact hp
  have hl : (st ++ [o]).length = st.length + 1 := by simp
  refine ⟨m', by rw [hl]; exact hs, ?_, hme⟩
  refine ⟨fun i j hi hj e => ?_, fun i hi => ?_, fun b o' h1 h2 => s b o' (R.keep b o' h1 h2), fun b o' h1 h2 => s b o' (R.imm b o' h1 h2), fun b h => hs.dom b (R.dom b h), fun b h => ⟨hs.dom b (R.zd b h).1, fun i hi z => ?_⟩, fun i o' e => ?_, R.len, fun i x e => ?_⟩
  · rw [hl] at hi hj
    by_cases a : i = st.length
    · by_cases b : j = st.length
      · rw [a, b]
      · rw [a, hme, hm j (by omega)] at e
        exact absurd e.symm (R.nb hp j (by omega))
    · by_cases b : j = st.length
      · rw [b, hme, hm i (by omega)] at e
        exact absurd e (R.nb hp i (by omega))
      · rw [hm i (by omega), hm j (by omega)] at e
        exact R.inj i j (by omega) (by omega) e
  · rw [hl] at hi
    by_cases a : i = st.length
    · subst a; rw [hme]; exact .inr (R.h0 hp)
    · rw [hm i (by omega)]; exact R.own i (by omega)
  · rw [hl] at hi
    by_cases a : i = st.length
    · subst a; rw [hme] at z; subst z; exact (R.zd p h).1 hp
    · rw [hm i (by omega)] at z; exact (R.zd b h).2 i (by omega) z
  · rw [hl]
    by_cases a : i = st.length
    · subst a
      rw [List.getElem?_append_right (Nat.le_refl _), Nat.sub_self] at e
      cases e
      exact ⟨u, by rw [hme]; exact hu, ho m' hs hme⟩
    · have hi : i < st.length := by
        have := (List.getElem?_eq_some_iff.mp e).1
        rw [hl] at this; omega
      rw [List.getElem?_append_left hi] at e
      obtain ⟨u', h1, h2⟩ := R.sto i o' e
      exact ⟨u', by rw [hm i hi]; exact s _ _ h1, AObj.step hs h2⟩
  · rw [hl]
    obtain ⟨v, h1, h2⟩ := R.slo i x e
    exact ⟨v, h1, AVal.step hs h2⟩
/-- a place of the store is written -/
theorem Rel.write (R : Rel F m st S σ H) {n : Nat} {o : AO} {u : HO} (hn : n < st.length) (ho : AObj F m st.length H o u) :
    Step m st.length H m (st.set n o).length (upd H (m n) u) ∧ Rel F m (st.set n o) S σ (upd H (m n) u) := by
  obtain ⟨u0, h0, ao0⟩ := R.at hn
  have nt : ∀ b o, H b = some o → isMut o = false → b ≠ m n := fun b o h q z => by
    subst z
    rw [h0] at h; cases h
    rw [ao0.mut] at q; cases q
  have hs : Step m st.length H m st.length (upd H (m n) u) := by
    refine ⟨Nat.le_refl _, fun _ _ => rfl, fun i h1 h2 => absurd h2 (by omega), fun b o' h k => ?_, fun b h => ?_, fun b o' h q => ?_⟩
    · rw [upd_ne (fun z => k n hn z.symm)]; exact h
    · by_cases e : b = m n
      · rw [e, upd_same]; simp
      · rw [upd_ne e]; exact h
    · rw [upd_ne (nt b o' h q)]; exact h
  have hl : (st.set n o).length = st.length := by simp
  rw [hl]
  refine ⟨hs, ?_⟩
  refine ⟨fun i j hi hj => R.inj i j (by simpa using hi) (by simpa using hj), fun i hi => R.own i (by simpa using hi), fun b o' h1 h2 => ?_, fun b o' h1 h2 => hs.imm b o' (R.imm b o' h1 h2) h2, fun b h => hs.dom b (R.dom b h), fun b h => ⟨hs.dom b (R.zd b h).1, fun i hi => (R.zd b h).2 i (by simpa using hi)⟩, fun i o' e => ?_, R.len, fun i x e => ?_⟩
  · refine hs.keep b o' (R.keep b o' h1 h2) fun i hi z => ?_
    rcases R.own i hi with q | q
    · exact h2 (z ▸ q)
    · rw [z, h1] at q; cases q
  · rw [hl]
    by_cases a : i = n
    · subst a
      rw [List.getElem?_set_self hn] at e
      cases e
      exact ⟨u, upd_same, AObj.step hs ho⟩
    · rw [List.getElem?_set_ne (Ne.symm a)] at e
      obtain ⟨u', h1, h2⟩ := R.sto i o' e
      have hi := (List.getElem?_eq_some_iff.mp e).1
      exact ⟨u', by rw [upd_ne (fun z => a (R.inj i n hi hn z))]; exact h1, AObj.step hs h2⟩
  · rw [hl]
    obtain ⟨v, h1, h2⟩ := R.slo i x e
    exact ⟨v, h1, AVal.step hs h2⟩
/-- a slot is set -/
theorem Rel.slot (R : Rel F m st S σ H) {i : Nat} {x : AV} {v : V} (h : AVal F m st.length H x v) : Rel F m st (S.set i (some x)) (σ.set i (some v)) H where
  inj := R.inj
  own := R.own
  keep := R.keep
  imm := R.imm
  dom := R.dom
  zd := R.zd
  sto := R.sto
  len := by simpa using R.len
  slo := fun j y e => by
    by_cases a : j = i
    · subst a
      have hj : j < S.length := by
        have := (List.getElem?_eq_some_iff.mp e).1
        simpa using this
      rw [List.getElem?_set_self hj] at e
      cases e
      exact ⟨v, by rw [List.getElem?_set_self (by rw [← R.len]; exact hj)], h⟩
    · rw [List.getElem?_set_ne (Ne.symm a)] at e
      rw [List.getElem?_set_ne (Ne.symm a)]
      exact R.slo j y e
theorem Rel.unslot (R : Rel F m st S σ H) {i : Nat} : Rel F m st (S.set i none) (σ.set i none) H where
  inj := R.inj
  own := R.own
  keep := R.keep
  imm := R.imm
  dom := R.dom
  zd := R.zd
  sto := R.sto
  len := by simpa using R.len
  slo := fun j y e => by
    by_cases a : j = i
    · subst a
      have hj : j < S.length := by
        have := (List.getElem?_eq_some_iff.mp e).1
        simpa using this
      rw [List.getElem?_set_self hj] at e
      cases e
    · rw [List.getElem?_set_ne (Ne.symm a)] at e
      rw [List.getElem?_set_ne (Ne.symm a)]
      exact R.slo j y e
/-- other slots -/
theorem Rel.slots (R : Rel F m st S σ H) {S' : Slots} {σ' : St} (hl : S'.length = σ'.length) (h : ∀ (i : Nat) (x : AV), S'[i]? = some (some x) → ∃ v, σ'[i]? = some (some v) ∧ AVal F m st.length H x v) : Rel F m st S' σ' H :=
  ⟨R.inj, R.own, R.keep, R.imm, R.dom, R.zd, R.sto, hl, h⟩
/-- the slots are forgotten -/
theorem Rel.bare (R : Rel F m st S σ H) : Rel F m st [] [] H := R.slots rfl fun j y e => by simp at e
/-- one address more that no value may name: a new one -/
abbrev Fix.av (F : Fix) (a : Addr) : Fix := { F with Z := fun b => F.Z b ∨ b = a }
theorem Val.av {p : PV} {v : V} {a : Addr} (h : Val F.c (Lw F m N) H p v) (ha : H a = none) : Val F.c (Lw (F.av a) m N) H p v :=
  Val.ground (fun t b l e => ⟨l.1, fun z => z.elim l.2.1 fun z => e (z ▸ ha), l.2.2⟩) h
theorem Vls.av {p : List PV} {v : List V} {a : Addr} (h : Vls F.c (Lw F m N) H p v) (ha : H a = none) : Vls F.c (Lw (F.av a) m N) H p v :=
  Vls.ground (fun t b l e => ⟨l.1, fun z => z.elim l.2.1 fun z => e (z ▸ ha), l.2.2⟩) h
theorem Val.unav {p : PV} {v : V} {a : Addr} (h : Val F.c (Lw (F.av a) m N) H p v) : Val F.c (Lw F m N) H p v :=
  Val.ground (fun t b l e => ⟨l.1, fun z => l.2.1 (.inl z), l.2.2⟩) h
theorem Vls.unav {p : List PV} {v : List V} {a : Addr} (h : Vls F.c (Lw (F.av a) m N) H p v) : Vls F.c (fun t b => Lw F m N t b ∧ b ≠ a) H p v :=
  Vls.ground (fun t b l e => ⟨⟨l.1, fun z => l.2.1 (.inl z), l.2.2⟩, fun z => l.2.1 (.inr z)⟩) h
/-- another ground for the values (the store's places are the same) -/
theorem AVal.ground {F' : Fix} (hc : F'.c = F.c) (h0 : ∀ a, F.H0 a = none → H a ≠ none → F'.H0 a = none) (kL : ∀ t a, Lw F m N t a → H a ≠ none → Lw F' m N t a) {x : AV} {v : V} (h : AVal F m N H x v) : AVal F' m N H x v := by
  cases h with
  | v h f =>
    refine .v (by rw [hc]; exact Val.ground kL h) fun e => ?_
    obtain ⟨t, xs, a, vs, rfl, rfl, q, ha, r⟩ := f e
    exact ⟨t, xs, a, vs, rfl, rfl, h0 a q (some_ne ha), ha, by rw [hc]; exact Vls.ground (fun t a l e => ⟨kL t a l.1 e, l.2⟩) r⟩
  | ref h => exact .ref h
theorem AVal0.ground {F' : Fix} (hc : F'.c = F.c) (kL : ∀ t a, Lw F m N t a → H a ≠ none → Lw F' m N t a) {x : AV} {v : V} (h : AVal0 F m N H x v) : AVal0 F' m N H x v := by
  cases h with
  | v h => exact .v (by rw [hc]; exact Val.ground kL h)
  | ref h => exact .ref h
theorem AObj.ground {F' : Fix} (hc : F'.c = F.c) (kL : ∀ t a, Lw F m N t a → H a ≠ none → Lw F' m N t a) {o : AO} {u : HO} (h : AObj F m N H o u) : AObj F' m N H o u := by
  cases h with
  | lst h => exact .lst (Paired.mapP h fun _ _ => AVal0.ground hc kL)
  | dK h => exact .dK (Paired.mapP h fun a b z => ⟨z.1, AVal0.ground hc kL z.2⟩)
  | dT h => exact .dT (Paired.mapP h fun a b z => ⟨z.1, AVal0.ground hc kL z.2⟩)
  | ins h => rw [← hc]; exact .ins (Paired.mapP h fun a b z => ⟨by rw [hc]; exact z.1, AVal0.ground hc kL z.2⟩)
theorem Rel.av (R : Rel F m st S σ H) {a : Addr} (ha : H a = none) (s : Same H H') (ha' : H' a ≠ none) : Rel (F.av a) m st S σ H' :=
  have kL : ∀ t b, Lw F m st.length t b → H b ≠ none → Lw (F.av a) m st.length t b := fun t b l e => ⟨l.1, fun z => z.elim l.2.1 fun z => e (z ▸ ha), l.2.2⟩
  have R' := R.same s
  ⟨R.inj, R.own, R'.keep, R'.imm, R'.dom, fun b h => h.elim (fun z => R'.zd b z) fun z => z ▸ ⟨ha', R.nb ha⟩, fun i o e =>
    have ⟨u, h1, h2⟩ := R.sto i o e
    ⟨u, s _ _ h1, AObj.step (Step.of s) (AObj.ground (F := F) (F' := F.av a) rfl kL h2)⟩, R.len, fun i x e =>
    have ⟨v, h1, h2⟩ := R.slo i x e
    ⟨v, h1, AVal.step (Step.of s) (AVal.ground (F := F) (F' := F.av a) rfl (fun _ z _ => z) kL h2)⟩⟩
theorem Rel.unav {a : Addr} (R : Rel (F.av a) m st S σ H) : Rel F m st S σ H :=
  have kL : ∀ t b, Lw (F.av a) m st.length t b → H b ≠ none → Lw F m st.length t b := fun t b l e => ⟨l.1, fun z => l.2.1 (.inl z), l.2.2⟩
  ⟨R.inj, R.own, R.keep, R.imm, R.dom, fun b h => R.zd b (.inl h), fun i o e =>
    have ⟨u, h1, h2⟩ := R.sto i o e
    ⟨u, h1, AObj.ground (F := F.av a) (F' := F) rfl kL h2⟩, R.len, fun i x e =>
    have ⟨v, h1, h2⟩ := R.slo i x e
    ⟨v, h1, AVal.ground (F := F.av a) (F' := F) rfl (fun _ z _ => z) kL h2⟩⟩
end
end A

/-! The A-layer, part 1: judgements by denotations; statements; names, constants. -/
namespace A
open PySem PySem.Spec PyProof.Rows L2

def Res.then {α β : Type} (r : Res α) (k : α → Store → Res β) : Res β := match r with
  | .ok a st => k a st
  | .ex e st => .ex e st
  | .bad => .bad
/-- how an error lies: its class, its own dict -/
def ERep (c : Ct) (L : Bool → Addr → Prop) (H : Hp) (e : AE) (cls : Value) (d : Option Addr) : Prop :=
  cls = .ref (c.ca e.C) ∧ ((e.fs = [] ∧ d = none) ∨ ∃ dx us, d = some dx ∧ H dx = some (.xd us) ∧ ∀ f p, e.fs.lookup f = some p → ∃ v, us.lookup (c.fn f) = some v ∧ Val c L H p v)
theorem ERep.mono {c : Ct} {L L' : Bool → Addr → Prop} {H H' : Hp} (ki : ∀ a o, H a = some o → isMut o = false → H' a = some o) (kl : ∀ t a o, L t a → H a = some o → H' a = some o) (kL : ∀ t a, L t a → H a ≠ none → L' t a)
    {e : AE} {cls : Value} {d : Option Addr} (h : ERep c L H e cls d) : ERep c L' H' e cls d := by
  obtain ⟨h1, h2⟩ := h
  refine ⟨h1, ?_⟩
  rcases h2 with h2 | ⟨dx, us, hd, hx, hf⟩
  · exact .inl h2
  · refine .inr ⟨dx, us, hd, ki _ _ hx rfl, fun f p e => ?_⟩
    obtain ⟨v, a, b⟩ := hf f p e
    exact ⟨v, a, Val.mono ki kl kL b⟩
abbrev VRel (α β : Type) := Fix → (Nat → Addr) → Nat → Hp → α → β → Prop
/-- what is wanted of a result -/
def PostE {α β : Type} (rel : VRel α β) (W : WX) (F : Fix) (m : Nat → Addr) (N : Nat) (H : Hp) (S : Slots) (σ : St) (r : Res α) (Q : β → Hp → Prop) : Prop :=
  match r with
  | .ok x st' => ∀ m' v H', Step m N H m' st'.length H' → Rel F m' st' S σ H' → rel F m' st'.length H' x v → Q v H'
  | .ex e st' => ∀ m' H' cls d, Step m N H m' st'.length H' → Rel F m' st' S σ H' → ERep F.c (Lw F m' st'.length) H' e cls d → W cls d σ H'
  | .bad => False
/-- the reading that a denotation makes -/
def tG {α β : Type} (rel : VRel α β) (c : Ct) (W : WX) (d : Slots → Store → Res α) : St → Hp → (β → Hp → Prop) → Prop := fun σ H Q =>
  ∃ F m st S, F.c = c ∧ Rel F m st S σ H ∧ PostE rel W F m st.length H S σ (d S st) Q
abbrev rB : VRel Bool Bool := fun _ _ _ _ a b => a = b
abbrev rV : VRel AV V := AVal
abbrev rA : VRel (List AV) (List V) := AVls
section
variable {α β γ δ : Type} {rel : VRel α β} {rel2 : VRel γ δ} {W : WX} {F : Fix} {m m1 : Nat → Addr} {N N1 : Nat} {H H1 : Hp} {S : Slots} {σ : St} {st : Store} {r : Res α} {Q Q' : β → Hp → Prop}
theorem PostE.shift (s : Step m N H m1 N1 H1) (h : PostE rel W F m N H S σ r Q) : PostE rel W F m1 N1 H1 S σ r Q := by
  cases r with
  | ok x st' => exact fun m' v H' a b c => h m' v H' (s.trans a) b c
  | ex e st' => exact fun m' H' cls d a b c => h m' H' cls d (s.trans a) b c
  | bad => exact h
theorem PostE.imp (h : PostE rel W F m N H S σ r Q) (hQ : ∀ v H, Q v H → Q' v H) : PostE rel W F m N H S σ r Q' := by
  cases r with
  | ok x st' => exact fun m' v H' a b c => hQ _ _ (h m' v H' a b c)
  | ex e st' => exact h
  | bad => exact h
theorem PostE.bind {k : α → Store → Res γ} {Q : δ → Hp → Prop} (h : PostE rel2 W F m N H S σ (r.then k) Q) :
    PostE rel W F m N H S σ r fun v H1 => ∃ m1 st1 x, r = .ok x st1 ∧ Step m N H m1 st1.length H1 ∧ Rel F m1 st1 S σ H1 ∧ rel F m1 st1.length H1 x v ∧ PostE rel2 W F m1 st1.length H1 S σ (k x st1) Q := by
  cases r with
  | ok x st1 => exact fun m1 v H1 a b c => ⟨m1, st1, x, rfl, a, b, c, PostE.shift a h⟩
  | ex e st1 => exact h
  | bad => exact h
/-- a value, the state as it is -/
theorem PostE.here {x : α} {v : β} (h : PostE rel W F m st.length H S σ (.ok x st) Q) (R : Rel F m st S σ H) (hr : rel F m st.length H x v) : Q v H := h m v H Step.refl R hr
end

/-! ### judgements -/
abbrev PEA (X : Cx) (c : Ct) (W : WX) (e : Expr) (d : DE) : Prop := PE X e (tG rV c W d)
abbrev PTA (X : Cx) (c : Ct) (W : WX) (e : Expr) (d : DT) : Prop := PT X e (tG rB c W d)
abbrev PAA (X : Cx) (c : Ct) (W : WX) (es : List Expr) (d : DA) : Prop := PA X es (tG rA c W d)
theorem _root_.L2.PE.imp {X : Cx} {e : Expr} {t t' : TE} (h : PE X e t) (f : ∀ σ H Q, t' σ H Q → t σ H Q) : PE X e t' := ⟨fun pins s σ H Q I hw => h.run pins s σ H Q I (f σ H Q hw)⟩
theorem _root_.L2.PT.imp {X : Cx} {e : Expr} {t t' : TT} (h : PT X e t) (f : ∀ σ H Q, t' σ H Q → t σ H Q) : PT X e t' := ⟨fun pins s σ H Q I hw => h.run pins s σ H Q I (f σ H Q hw)⟩
theorem _root_.L2.PW.imp {X : Cx} {e : Expr} {t t' : TT} (h : PW X e t) (f : ∀ σ H Q, t' σ H Q → t σ H Q) : PW X e t' := ⟨fun wh pins s σ H Q I hw => h.run wh pins s σ H Q I (f σ H Q hw)⟩
theorem _root_.L2.PA.imp {X : Cx} {e : List Expr} {t t' : TA} (h : PA X e t) (f : ∀ σ H Q, t' σ H Q → t σ H Q) : PA X e t' := ⟨fun p pins s σ H Q I hw => h.run p pins s σ H Q I (f σ H Q hw)⟩
theorem _root_.L2.PS.imp {X : Cx} {e : Stmt} {t t' : TS} (h : PS X e t) (f : ∀ D σ H, t' D σ H → t D σ H) : PS X e t' := ⟨fun pins s σ H D I hw => h.run pins s σ H D I (f D σ H hw)⟩
theorem _root_.L2.PSs.imp {X : Cx} {e : List Stmt} {t t' : TS} (h : PSs X e t) (f : ∀ D σ H, t' D σ H → t D σ H) : PSs X e t' := ⟨fun pins s σ H D I hw => h.run pins s σ H D I (f D σ H hw)⟩

/-- what is wanted behind a statement's result -/
def PostS (W : WX) (F : Fix) (m : Nat → Addr) (N : Nat) (H : Hp) (r : Flow) (D : Ends) : Prop :=
  match r with
  | .nx S st' => ∀ m' σ' H', Step m N H m' st'.length H' → Rel F m' st' S σ' H' → D.nx σ' H'
  | .bk S st' => ∀ m' σ' H', Step m N H m' st'.length H' → Rel F m' st' S σ' H' → D.bk σ' H'
  | .ct S st' => ∀ m' σ' H', Step m N H m' st'.length H' → Rel F m' st' S σ' H' → D.ct σ' H'
  | .rt x st' => ∀ m' v H', Step m N H m' st'.length H' → Rel F m' st' [] [] H' → AVal F m' st'.length H' x v → D.rt v H'
  | .ex e S st' => ∀ m' σ' H' cls d, Step m N H m' st'.length H' → Rel F m' st' S σ' H' → ERep F.c (Lw F m' st'.length) H' e cls d → W cls d σ' H'
  | .bad => False
def tS (c : Ct) (W : WX) (d : DS) : TS := fun D σ H => ∃ F m st S, F.c = c ∧ Rel F m st S σ H ∧ PostS W F m st.length H (d S st) D
abbrev PSA (X : Cx) (c : Ct) (W : WX) (s : Stmt) (d : DS) : Prop := PS X s (tS c W d)
abbrev PSsA (X : Cx) (c : Ct) (W : WX) (s : List Stmt) (d : DS) : Prop := PSs X s (tS c W d)
theorem PostS.shift {W : WX} {F : Fix} {m m1 : Nat → Addr} {N N1 : Nat} {H H1 : Hp} {r : Flow} {D : Ends} (s : Step m N H m1 N1 H1) (h : PostS W F m N H r D) : PostS W F m1 N1 H1 r D := by
  cases r with
  | nx S st' => exact fun m' σ' H' a b => h m' σ' H' (s.trans a) b
  | bk S st' => exact fun m' σ' H' a b => h m' σ' H' (s.trans a) b
  | ct S st' => exact fun m' σ' H' a b => h m' σ' H' (s.trans a) b
  | rt x st' => exact fun m' v H' a b c => h m' v H' (s.trans a) b c
  | ex e S st' => exact fun m' σ' H' cls d a b c => h m' σ' H' cls d (s.trans a) b c
  | bad => exact h

/-- what the rules ask of the context: constants, room -/
structure Cn (X : Cx) (c : Ct) : Prop where
  K : c.K = X.K
  calm : X.calm = true
  nd : X.N.Nodup
  pas : PassesOwn (model X.prog X.w) X.A X.env X.xe
  room : Room 40 X.A
  no : X.base.NoSeer
  tree : X.prog.given.tree = none
  stk : ∃ e l, X.stack = e :: l ∧ e.scope.isGenerator = false ∧ e.scope.isCoroutine = false ∧ e.builtins = builtinsNs ∧ e.globals = mainGlobals

/-! ### statements -/
section
variable {X : Cx} {c : Ct} {W : WX} {st : Stmt} {rest : List Stmt} {d d1 d2 : DS} {e : Expr} {de : DE} {pos : Pos}
def dNext : DS := fun S st => .nx S st
/-- one after another -/
def dSeq (d1 d2 : DS) : DS := fun S st => match d1 S st with
  | .nx S' st' => d2 S' st'
  | r => r
theorem pssa_nil : PSsA X c W [] dNext := pss_nil.imp fun D σ H ⟨F, m, st, S, hc, R, P⟩ => P m σ H Step.refl R
theorem pssa_one (h : PSA X c W st d) : PSsA X c W [st] d := pss_one h
theorem pssa_cons (h1 : PSA X c W st d1) (h2 : PSsA X c W rest d2) : PSsA X c W (st :: rest) (dSeq d1 d2) := (pss_cons h1 h2).imp fun D σ H ⟨F, m, s, S, hc, R, P⟩ => by
  refine ⟨F, m, s, S, hc, R, ?_⟩
  unfold dSeq at P
  cases e : d1 S s with
  | nx S' st' =>
    rw [e] at P
    exact fun m' σ' H' a b => ⟨F, m', st', S', hc, b, PostS.shift a P⟩
  | bk S' st' => rw [e] at P; exact P
  | ct S' st' => rw [e] at P; exact P
  | rt x st' => rw [e] at P; exact P
  | ex x S' st' => rw [e] at P; exact P
  | bad => rw [e] at P; exact P
theorem psa_pass : PSA X c W (.Pass pos) dNext := ps_pass.imp fun D σ H ⟨F, m, st, S, hc, R, P⟩ => P m σ H Step.refl R
def dBreak : DS := fun S st => .bk S st
def dCont : DS := fun S st => .ct S st
theorem psa_break : PSA X c W (.Break pos) dBreak := ps_break.imp fun D σ H ⟨F, m, st, S, hc, R, P⟩ => P m σ H Step.refl R
theorem psa_continue : PSA X c W (.Continue pos) dCont := ps_continue.imp fun D σ H ⟨F, m, st, S, hc, R, P⟩ => P m σ H Step.refl R
/-- from an expression to a statement -/
def Res.flow {α : Type} (S : Slots) (r : Res α) (k : α → Store → Flow) : Flow := match r with
  | .ok x st => k x st
  | .ex e st => .ex e S st
  | .bad => .bad
theorem PostS.bind {α β : Type} {rel : VRel α β} {F : Fix} {m : Nat → Addr} {N : Nat} {H : Hp} {S : Slots} {σ : St} {r : Res α} {k : α → Store → Flow} {D : Ends} (h : PostS W F m N H (r.flow S k) D) :
    PostE rel W F m N H S σ r fun v H1 => ∃ m1 st1 x, r = .ok x st1 ∧ Step m N H m1 st1.length H1 ∧ Rel F m1 st1 S σ H1 ∧ rel F m1 st1.length H1 x v ∧ PostS W F m1 st1.length H1 (k x st1) D := by
  cases r with
  | ok x st1 => exact fun m1 v H1 a b c => ⟨m1, st1, x, rfl, a, b, c, PostS.shift a h⟩
  | ex e st1 => exact fun m' H' cls d a b c => h m' σ H' cls d a b c
  | bad => exact h
def dExpr (de : DE) : DS := fun S st => (de S st).flow S fun _ st1 => .nx S st1
theorem psa_expr (he : PEA X c W e de) (hs : swapsWith e none pos.line X.env = pure false := by rfl) : PSA X c W (.Expr e pos) (dExpr de) := (ps_expr he hs).imp fun D σ H ⟨F, m, s, S, hc, R, P⟩ =>
  ⟨F, m, s, S, hc, R, (PostS.bind P).imp fun v H1 ⟨m1, st1, x, _, a, b, r, P1⟩ => P1 m1 σ H1 Step.refl b⟩
def dRet (de : DE) : DS := fun S st => (de S st).flow S fun x st1 => .rt x st1
theorem psa_ret (he : PEA X c W e de) : PSA X c W (.Return (some e) pos) (dRet de) := (ps_ret he).imp fun D σ H ⟨F, m, s, S, hc, R, P⟩ =>
  ⟨F, m, s, S, hc, R, (PostS.bind P).imp fun v H1 ⟨m1, st1, x, _, a, b, r, P1⟩ => P1 m1 v H1 Step.refl b.bare r⟩
def dRetN : DS := fun S st => .rt (.v .non false) st
theorem psa_retN : PSA X c W (.Return none pos) dRetN := ps_retN.imp fun D σ H ⟨F, m, st, S, hc, R, P⟩ => P m .non H Step.refl R.bare (.v .non fun e => nomatch e)
def dIf (dt : DT) (d1 d2 : DS) : DS := fun S st => (dt S st).flow S fun b st1 => bif b then d1 S st1 else d2 S st1
theorem psa_if {t : Expr} {a b : List Stmt} {dt : DT} (ht : PTA X c W t dt) (ha : PSsA X c W a d1) (hb : PSsA X c W b d2) : PSA X c W (.If t a b pos) (dIf dt d1 d2) := (ps_if ht ha hb).imp fun D σ H ⟨F, m, s, S, hc, R, P⟩ =>
  ⟨F, m, s, S, hc, R, (PostS.bind P).imp fun v H1 ⟨m1, st1, x, _, s1, R1, r, P1⟩ => by
    have r : x = v := r
    subst r
    cases x with
    | true => exact ⟨F, m1, st1, S, hc, R1, P1⟩
    | false => exact ⟨F, m1, st1, S, hc, R1, P1⟩⟩
/-- name = value -/
def dSet (i : Nat) (de : DE) : DS := fun S st => (de S st).flow S fun x st1 => .nx (S.set i (some x)) st1
theorem psa_set (cn : Cn X c) {i : Nat} {x : Str} {pos' : Pos} (he : PEA X c W e de) (hi : X.N[i]? = some x := by rfl) (hx : Loc X.env.scope x := by first | exact Or.inl rfl | exact Or.inr rfl) (hs : swapsWith e (some (.Name x pos')) pos.line X.env = pure false := by rfl)
    (hf : X.fn x = true ∨ X.env.scope.names.lookup x = some .local := by first | exact .inl rfl | exact .inr rfl) : PSA X c W (.Assign [.Name x pos'] e pos) (dSet i de) := (ps_set cn.nd hi hx he hs hf).imp fun D σ H ⟨F, m, s, S, hc, R, P⟩ =>
  ⟨F, m, s, S, hc, R, (PostS.bind P).imp fun v H1 ⟨m1, st1, x, _, a, b, r, P1⟩ => P1 m1 _ H1 Step.refl (b.slot r)⟩
end

/-! ### while -/
section
variable {X : Cx} {c : Ct} {W : WX} {pos : Pos}
def whileN (t : DT) (b : DS) : Nat → DS
  | 0, _, _ => .bad
  | n + 1, S, st => (t S st).flow S fun k st1 => bif k then (match b S st1 with
      | .nx S' st' => whileN t b n S' st'
      | .ct S' st' => whileN t b n S' st'
      | .bk S' st' => .nx S' st'
      | r => r) else .nx S st1
/-- while, with a bound of its turns -/
def dWhile (μ : Slots → Store → Nat) (t : DT) (b : DS) : DS := fun S st => whileN t b (μ S st) S st
theorem psa_while (cn : Cn X c) {t : Expr} {body : List Stmt} {dt : DT} {db : DS} (μ : Slots → Store → Nat) (ht : PTA X c W t dt) (hb : PSsA X c W body db) : PSA X c W (.While t body [] pos) (dWhile μ dt db) := (ps_while cn.pas ht hb).imp fun D σ H ⟨F, m, s, S, hc, R, P⟩ => by
  refine ⟨fun n σ H => ∃ m st S, Rel F m st S σ H ∧ PostS W F m st.length H (whileN dt db n S st) D, ⟨_, m, s, S, R, P⟩, ?_⟩
  rintro n σ1 H1 ⟨m1, s1, S1, R1, P1⟩
  cases n with
  | zero => exact P1.elim
  | succ n =>
    refine ⟨F, m1, s1, S1, hc, R1, (PostS.bind P1).imp fun v H2 ⟨m2, s2, k, _, a, R2, r, P2⟩ => ?_⟩
    have r : k = v := r
    subst r
    cases k with
    | false => exact P2 m2 σ1 H2 Step.refl R2
    | true =>
      rw [if_pos rfl]
      refine ⟨fun σ' H' => ∃ m st S, Rel F m st S σ' H' ∧ PostS W F m st.length H' (whileN dt db n S st) D, fun σ' H' q => ⟨n, Nat.lt_succ_self _, q⟩, F, m2, s2, S1, hc, R2, ?_⟩
      simp only [cond_true] at P2
      cases e : db S1 s2 with
      | nx S' st' => rw [e] at P2; exact fun m' σ' H' a b => ⟨m', st', S', b, PostS.shift a P2⟩
      | ct S' st' => rw [e] at P2; exact fun m' σ' H' a b => ⟨m', st', S', b, PostS.shift a P2⟩
      | bk S' st' => rw [e] at P2; exact P2
      | rt x st' => rw [e] at P2; exact P2
      | ex x S' st' => rw [e] at P2; exact P2
      | bad => rw [e] at P2; exact P2
end

/-! ### names, constants -/
section
variable {X : Cx} {c : Ct} {W : WX} {pos : Pos}
def dVar (i : Nat) : DE := fun S st => match S[i]? with
  | some (some x) => .ok x st
  | _ => .bad
def dC (p : PV) : DE := fun _ st => .ok (.v p false) st
theorem pea_var (i : Nat) {x : Str} (hN : X.N[i]? = some x := by rfl) (hv : Vis X.env.scope x := by first | exact Or.inl rfl | exact Or.inr (Or.inl rfl) | exact Or.inr (Or.inr rfl)) (hd : (x == ("__debug__" : Str)) = false := by decide)
    (hcd : (x == ("__classdict__" : Str)) = false := by decide) : PEA X c W (.Name x pos) (dVar i) := (pe_var hN hv hd hcd).imp fun σ H Q ⟨F, m, s, S, hc, R, P⟩ => by
  unfold dVar at P
  cases e : S[i]? with
  | none => rw [e] at P; exact P.elim
  | some o =>
    cases o with
    | none => rw [e] at P; exact P.elim
    | some x =>
      rw [e] at P
      obtain ⟨v, h1, h2⟩ := R.slo i x e
      exact ⟨v, h1, PostE.here P R h2⟩
/-- a value that stands in every heap -/
theorem tC_ok {v : V} {p : PV} (hv : ∀ L H, Val c L H p v) {σ : St} {H : Hp} {Q : VK} : tG rV c W (dC p) σ H Q → tC v σ H Q := fun ⟨F, m, s, S, hc, R, P⟩ =>
  PostE.here P R (.v (hc ▸ hv _ _) fun e => nomatch e)
theorem pea_int {i : Int} {j} : PEA X c W (.Constant (.int i) j pos) (dC (.int i)) := pe_int.imp fun _ _ _ => tC_ok fun _ _ => .int i
theorem pea_bl {b : Bool} {j} : PEA X c W (.Constant (.bool b) j pos) (dC (.bl b)) := pe_bl.imp fun _ _ _ => tC_ok fun _ _ => .bl b
theorem pea_non {j} : PEA X c W (.Constant .none j pos) (dC .non) := pe_non.imp fun _ _ _ => tC_ok fun _ _ => .non
theorem pea_str {x : Str} {j} : PEA X c W (.Constant (.str x) j pos) (dC (.str x)) := pe_str.imp fun _ _ _ => tC_ok fun _ _ => .str x
/-- a module's constant -/
theorem pea_glob {x : Str} {v : V} {u : Value} {p : PV} (hm : X.mg x = some u) (r : RelV v u) (hv : ∀ L H, Val c L H p v) (hg : Gl X x := by rfl) (hd : (x == ("__debug__" : Str)) = false := by decide) : PEA X c W (.Name x pos) (dC p) :=
  (pe_glob hg hm r hd).imp fun _ _ _ => tC_ok hv
end

/-! ### arguments -/
section
variable {X : Cx} {c : Ct} {W : WX} {e : Expr} {es : List Expr} {de : DE} {da : DA}
def dNil : DA := fun _ st => .ok [] st
def dCons (de : DE) (da : DA) : DA := fun S st => (de S st).then fun x st1 => (da S st1).then fun xs st2 => .ok (x :: xs) st2
theorem paa_nil : PAA X c W [] dNil := pa_nil.imp fun σ H Q ⟨F, m, s, S, hc, R, P⟩ => PostE.here P R .nil
theorem paa_cons (he : PEA X c W e de) (ha : PAA X c W es da) (hs : starEach (e :: es) X.env = (false, eval e X.env) :: starEach es X.env := by rfl) : PAA X c W (e :: es) (dCons de da) := (pa_cons he ha hs).imp fun σ H Q ⟨F, m, s, S, hc, R, P⟩ =>
  ⟨F, m, s, S, hc, R, (PostE.bind P).imp fun v H1 ⟨m1, s1, x, _, a1, R1, r1, P1⟩ =>
    ⟨F, m1, s1, S, hc, R1, (PostE.bind P1).imp fun vs H2 ⟨m2, s2, xs, _, a2, R2, r2, P2⟩ => PostE.here P2 R2 (.cons (AVal.step a2 r1) r2)⟩⟩
end

/-! ### two places -/
section
variable {X : Cx} {c : Ct} {W : WX} {a b : Expr} {da db : DE} {pos : Pos} {op : Operator} {r : R2} {f : AV → AV → Store → Res AV}
def dBin (f : AV → AV → Store → Res AV) (da db : DE) : DE := fun S st => (da S st).then fun x st1 => (db S st1).then fun y st2 => f x y st2
/-- an operation on abstract values and its reading -/
def R2ok (c : Ct) (r : R2) (f : AV → AV → Store → Res AV) : Prop := ∀ (W : WX) (F : Fix) (m : Nat → Addr) (st : Store) (S : Slots) (σ : St) (H : Hp) (x y : AV) (v w : V) (Q : VK), F.c = c → Rel F m st S σ H → AVal F m st.length H x v → AVal F m st.length H y w →
  PostE rV W F m st.length H S σ (f x y st) Q → r v w H Q
theorem bin_ok (hr : R2ok c r f) {σ : St} {H : Hp} {Q : VK} : tG rV c W (dBin f da db) σ H Q → tOp r (tG rV c W da) (tG rV c W db) σ H Q := fun ⟨F, m, s, S, hc, R, P⟩ =>
  ⟨F, m, s, S, hc, R, (PostE.bind P).imp fun v H1 ⟨m1, s1, x, _, a1, R1, r1, P1⟩ =>
    ⟨F, m1, s1, S, hc, R1, (PostE.bind P1).imp fun w H2 ⟨m2, s2, y, _, a2, R2, r2, P2⟩ => hr W F m2 s2 S σ H2 x y v w Q hc R2 (AVal.step a2 r1) r2 P2⟩⟩
theorem pea_op (ho : OpR X (binaryOp op) r) (hf : R2ok c r f) (ha : PEA X c W a da) (hb : PEA X c W b db) : PEA X c W (.BinOp a op b pos) (dBin f da db) := (pe_op ho ha hb).imp fun _ _ _ => bin_ok hf
theorem pea_cmp {op : CmpOp} (ho : OpR X (compareOp op) r) (hf : R2ok c r f) (ha : PEA X c W a da) (hb : PEA X c W b db) (hm : behindInMarks op b = false := by first | exact nomark _ (by decide) (by decide) | rfl) : PEA X c W (.Compare a [op] [b] pos) (dBin f da db) :=
  (pe_cmpR ho ha hb hm).imp fun _ _ _ => bin_ok hf
theorem R2ok.or {r' : R2} (h : R2ok c r f) : R2ok c (fun x y H Q => r x y H Q ∨ r' x y H Q) f := fun W F m st S σ H x y v w Q h1 h2 h3 h4 h5 => .inl (h W F m st S σ H x y v w Q h1 h2 h3 h4 h5)
end
/-! ### tests -/
section
variable {X : Cx} {c : Ct} {W : WX} {a b e : Expr} {rest : List Expr} {de : DE} {da db : DT} {pos : Pos}
/-- a value that is True or False -/
def dB (de : DE) : DT := fun S st => (de S st).then fun x st1 => match x with
  | .v (.bl k) _ => .ok k st1
  | _ => .bad
theorem isB {F : Fix} {m : Nat → Addr} {N : Nat} {H : Hp} {k : Bool} {fr : Bool} {v : V} (h : AVal F m N H (.v (.bl k) fr) v) : v = .bl k := by
  cases h with
  | v h _ => cases h; rfl
theorem isI {F : Fix} {m : Nat → Addr} {N : Nat} {H : Hp} {k : Int} {fr : Bool} {v : V} (h : AVal F m N H (.v (.int k) fr) v) : v = .int k := by
  cases h with
  | v h _ => cases h; rfl
theorem isS {F : Fix} {m : Nat → Addr} {N : Nat} {H : Hp} {k : Str} {fr : Bool} {v : V} (h : AVal F m N H (.v (.str k) fr) v) : v = .str k := by
  cases h with
  | v h _ => cases h; rfl
theorem isN {F : Fix} {m : Nat → Addr} {N : Nat} {H : Hp} {fr : Bool} {v : V} (h : AVal F m N H (.v .non fr) v) : v = .non := by
  cases h with
  | v h _ => cases h; rfl
theorem dB_ok {σ : St} {H : Hp} {Q : Bool → Hp → Prop} : tG rB c W (dB de) σ H Q → tG rV c W de σ H fun x H1 => ∃ k, x = .bl k ∧ Q k H1 := fun ⟨F, m, s, S, hc, R, P⟩ =>
  ⟨F, m, s, S, hc, R, (PostE.bind P).imp fun v H1 ⟨m1, s1, x, _, a1, R1, r1, P1⟩ => by
    cases x with
    | v p fr =>
      cases p with
      | bl k => exact ⟨k, isB r1, PostE.here P1 R1 rfl⟩
      | _ => exact P1.elim
    | ref n => exact P1.elim⟩
theorem pta_val (h : PEA X c W e de) (he : ∀ whole, isTrue e X.env whole = (do let v ← whole; standAt e.pos; holding [v] (truthy v)) := by intro _; rfl) : PTA X c W e (dB de) := (pt_val h he).imp fun _ _ _ => dB_ok
/-- a comparison as a test -/
theorem pta_cmp {op : CmpOp} {r : R2} {f : AV → AV → Store → Res AV} {dx dy : DE} (ho : OpR X (compareOp op) r) (hf : R2ok c r f) (ha : PEA X c W a dx) (hb : PEA X c W b dy) (hm : behindInMarks op b = false := by first | exact nomark _ (by decide) (by decide) | rfl) :
    PTA X c W (.Compare a [op] [b] pos) (dB (dBin f dx dy)) := (pt_cmpR ho ha hb hm).imp fun σ H Q h => bin_ok hf (dB_ok h)
def dNot (da : DT) : DT := fun S st => (da S st).then fun k st1 => .ok (!k) st1
theorem pta_not (h : PTA X c W a da) : PTA X c W (.UnaryOp .Not a pos) (dNot da) := (pt_not h).imp fun σ H Q ⟨F, m, s, S, hc, R, P⟩ =>
  ⟨F, m, s, S, hc, R, (PostE.bind P).imp fun v H1 ⟨m1, s1, k, _, a1, R1, r1, P1⟩ => by
    have r1 : k = v := r1
    subst r1
    exact PostE.here P1 R1 rfl⟩
def dAnd (da db : DT) : DT := fun S st => (da S st).then fun k st1 => bif k then db S st1 else .ok false st1
def dOr (da db : DT) : DT := fun S st => (da S st).then fun k st1 => bif k then .ok true st1 else db S st1
abbrev PWA (X : Cx) (c : Ct) (W : WX) (e : Expr) (d : DT) : Prop := PW X e (tG rB c W d)
theorem pwa_and1 (h : PTA X c W a da) : PWA X c W (.BoolOp .And [a] pos) da := pw_and1 h
theorem pwa_or1 (h : PTA X c W a da) : PWA X c W (.BoolOp .Or [a] pos) da := pw_or1 h
theorem pwa_and (ha : PTA X c W a da) (hb : PWA X c W (.BoolOp .And (b :: rest) pos) db) : PWA X c W (.BoolOp .And (a :: b :: rest) pos) (dAnd da db) := (pw_and ha hb).imp fun σ H Q ⟨F, m, s, S, hc, R, P⟩ =>
  ⟨F, m, s, S, hc, R, (PostE.bind P).imp fun v H1 ⟨m1, s1, k, _, a1, R1, r1, P1⟩ => by
    have r1 : k = v := r1
    subst r1
    cases k with
    | true => exact ⟨F, m1, s1, S, hc, R1, P1⟩
    | false => exact PostE.here P1 R1 rfl⟩
theorem pwa_or (ha : PTA X c W a da) (hb : PWA X c W (.BoolOp .Or (b :: rest) pos) db) : PWA X c W (.BoolOp .Or (a :: b :: rest) pos) (dOr da db) := (pw_or ha hb).imp fun σ H Q ⟨F, m, s, S, hc, R, P⟩ =>
  ⟨F, m, s, S, hc, R, (PostE.bind P).imp fun v H1 ⟨m1, s1, k, _, a1, R1, r1, P1⟩ => by
    have r1 : k = v := r1
    subst r1
    cases k with
    | false => exact ⟨F, m1, s1, S, hc, R1, P1⟩
    | true => exact PostE.here P1 R1 rfl⟩
theorem pta_w (h : PWA X c W e da) : PTA X c W e da := PW.pt h
/-- as values -/
def dBV (da : DT) : DE := fun S st => (da S st).then fun k st1 => .ok (.v (.bl k) false) st1
def dNotV (de : DE) : DE := fun S st => (de S st).then fun x st1 => match x with
  | .v (.bl k) _ => .ok (.v (.bl (!k)) false) st1
  | _ => .bad
def dAndV (de df : DE) : DE := fun S st => (de S st).then fun x st1 => match x with
  | .v (.bl k) _ => bif k then df S st1 else .ok (.v (.bl false) false) st1
  | _ => .bad
def dOrV (de df : DE) : DE := fun S st => (de S st).then fun x st1 => match x with
  | .v (.bl k) _ => bif k then .ok (.v (.bl true) false) st1 else df S st1
  | _ => .bad
theorem pea_one {op} (h : PEA X c W a de) : PEA X c W (.BoolOp op [a] pos) de := pe_one h
theorem pea_and {df : DE} (ha : PEA X c W a de) (hb : PEA X c W (.BoolOp .And (b :: rest) pos) df) : PEA X c W (.BoolOp .And (a :: b :: rest) pos) (dAndV de df) := (pe_and ha hb).imp fun σ H Q ⟨F, m, s, S, hc, R, P⟩ =>
  ⟨F, m, s, S, hc, R, (PostE.bind P).imp fun v H1 ⟨m1, s1, x, _, a1, R1, r1, P1⟩ => by
    cases x with
    | v p fr =>
      cases p with
      | bl k =>
        refine ⟨k, isB r1, ?_⟩
        cases k with
        | true => exact ⟨F, m1, s1, S, hc, R1, P1⟩
        | false => exact PostE.here P1 R1 (.v (.bl _) fun e => nomatch e)
      | _ => exact P1.elim
    | ref n => exact P1.elim⟩
theorem pea_or {df : DE} (ha : PEA X c W a de) (hb : PEA X c W (.BoolOp .Or (b :: rest) pos) df) : PEA X c W (.BoolOp .Or (a :: b :: rest) pos) (dOrV de df) := (pe_or ha hb).imp fun σ H Q ⟨F, m, s, S, hc, R, P⟩ =>
  ⟨F, m, s, S, hc, R, (PostE.bind P).imp fun v H1 ⟨m1, s1, x, _, a1, R1, r1, P1⟩ => by
    cases x with
    | v p fr =>
      cases p with
      | bl k =>
        refine ⟨k, isB r1, ?_⟩
        cases k with
        | false => exact ⟨F, m1, s1, S, hc, R1, P1⟩
        | true => exact PostE.here P1 R1 (.v (.bl _) fun e => nomatch e)
      | _ => exact P1.elim
    | ref n => exact P1.elim⟩
theorem pea_not (h : PEA X c W a de) : PEA X c W (.UnaryOp .Not a pos) (dNotV de) := (pe_not h).imp fun σ H Q ⟨F, m, s, S, hc, R, P⟩ =>
  ⟨F, m, s, S, hc, R, (PostE.bind P).imp fun v H1 ⟨m1, s1, x, _, a1, R1, r1, P1⟩ => by
    cases x with
    | v p fr =>
      cases p with
      | bl k => exact ⟨k, isB r1, PostE.here P1 R1 (.v (.bl _) fun e => nomatch e)⟩
      | _ => exact P1.elim
    | ref n => exact P1.elim⟩
def dIfE (dt : DT) (de df : DE) : DE := fun S st => (dt S st).then fun k st1 => bif k then de S st1 else df S st1
theorem pea_ifExp {t : Expr} {dt : DT} {df : DE} (ht : PTA X c W t dt) (ha : PEA X c W a de) (hb : PEA X c W b df) : PEA X c W (.IfExp t a b pos) (dIfE dt de df) := (pe_ifExp ht ha hb).imp fun σ H Q ⟨F, m, s, S, hc, R, P⟩ =>
  ⟨F, m, s, S, hc, R, (PostE.bind P).imp fun v H1 ⟨m1, s1, k, _, a1, R1, r1, P1⟩ => by
    have r1 : k = v := r1
    subst r1
    cases k with
    | true => exact ⟨F, m1, s1, S, hc, R1, P1⟩
    | false => exact ⟨F, m1, s1, S, hc, R1, P1⟩⟩
end
end A

/-! The A-layer, part 2: operators, displays, subscripts, built-ins. -/
namespace A
open PySem PySem.Spec PyProof.Rows L2

theorem pairedAppend {α β : Type} {P : α → β → Prop} : ∀ {xs ys : List α} {us vs : List β}, Paired P xs us → Paired P ys vs → Paired P (xs ++ ys) (us ++ vs)
  | _, _, _, _, .nil, s => s
  | _, _, _, _, .cons h r, s => .cons h (pairedAppend r s)
/-! ### lists of values -/
def toP : AV → Option PV
  | .v p _ => some p
  | .ref _ => none
def toPs : List AV → Option (List PV)
  | [] => some []
  | .v p _ :: r => (toPs r).map (p :: ·)
  | .ref _ :: _ => none
def strip : AV → AV
  | .v p _ => .v p false
  | x => x
/-- a new list, as a value or in the store -/
def newL (r : Bool) (xs : List AV) (st : Store) : Res AV := bif r then .ok (.ref st.length) (st ++ [.lst (xs.map strip)]) else match toPs xs with
  | some ps => .ok (.v (.lst true ps) true) st
  | none => .bad
section
variable {c : Ct} {W : WX} {F : Fix} {m : Nat → Addr} {N : Nat} {H : Hp} {S : Slots} {σ : St} {st : Store} {Q : VK}
theorem AVal0.strip {x : AV} {v : V} (h : AVal0 F m N H x v) : AVal F m N H (strip x) v := by
  cases h with
  | v h => exact .v h fun e => nomatch e
  | ref h => exact .ref h
theorem AVls0.strip : ∀ {xs : List AV} {vs : List V}, AVls0 F m N H xs vs → AVls F m N H (xs.map strip) vs
  | _, _, .nil => .nil
  | _, _, .cons h r => .cons h.strip (AVls0.strip r)
theorem toPs_ok : ∀ {xs : List AV} {vs : List V} {ps : List PV}, AVls0 F m N H xs vs → toPs xs = some ps → Vls F.c (Lw F m N) H ps vs
  | [], _, ps, .nil, e => by
    cases e
    exact .nil
  | .v p fr :: r, v :: vs, ps, .cons h t, e => by
    unfold toPs at e
    cases q : toPs r with
    | none => rw [q] at e; cases e
    | some qs =>
      rw [q] at e
      cases e
      cases h with
      | v h => exact .cons h (toPs_ok t q)
  | .ref n :: r, v :: vs, ps, .cons h t, e => by cases e
theorem Vls.avls : ∀ {ps : List PV} {vs : List V}, Vls F.c (Lw F m N) H ps vs → AVls F m N H (ps.map (AV.v · false)) vs
  | _, _, .nil => .nil
  | _, _, .cons h r => .cons (.v h fun e => nomatch e) (Vls.avls r)
theorem Val.int_inv {L : Bool → Addr → Prop} {i : Int} {v : V} (h : Val c L H (.int i) v) : v = .int i := by cases h; rfl
/-- the value list at a new address -/
theorem fresh_val (R : Rel F m st S σ H) {p : Addr} (hp : H p = none) {ps : List PV} {vs : List V} (h : Vls F.c (Lw F m st.length) H ps vs) :
    AVal F m st.length (upd H p (.lst vs)) (.v (.lst true ps) true) (.ref p) := by
  have s := Step.of (m := m) (N := st.length) (same_upd (o := .lst vs) hp)
  refine .v (.lst upd_same (R.free hp) (Vls.step s h)) fun _ => ⟨true, ps, p, vs, rfl, rfl, R.h0 hp, upd_same, ?_⟩
  exact (Vls.mono s.imm (fun t a o l e => s.keep a o e l.2.2) (fun t a l e => ⟨Lw.step s l e, fun z => e (z ▸ hp)⟩) h)
theorem newL_ok (R : Rel F m st S σ H) {r : Bool} {xs : List AV} {vs : List V} {p : Addr} (hp : H p = none) (h : AVls0 F m st.length H xs vs)
    (P : PostE rV W F m st.length H S σ (newL r xs st) Q) : Q (.ref p) (upd H p (.lst vs)) := by
  unfold newL at P
  cases r with
  | true =>
    simp only [cond_true] at P
    obtain ⟨m', s, R', e⟩ := R.push (o := .lst (xs.map strip)) (u := .lst vs) hp (same_upd hp) upd_same fun m' s e => .lst (AVls.zero (AVls.step s h.strip))
    have := P m' (.ref (m' st.length)) _ s R' (.ref (by simp))
    rw [e] at this; exact this
  | false =>
    simp only [cond_false] at P
    cases e : toPs xs with
    | none => rw [e] at P; exact P.elim
    | some ps =>
      rw [e] at P
      exact P m _ _ (Step.of (same_upd hp)) (R.same (same_upd hp)) (fresh_val R hp (toPs_ok h e))
theorem newT_ok (R : Rel F m st S σ H) {ps : List PV} {vs : List V} {p : Addr} (hp : H p = none) (h : Vls F.c (Lw F m st.length) H ps vs)
    (P : PostE rV W F m st.length H S σ (.ok (.v (.tup ps) false) st) Q) : Q (.ref p) (upd H p (.tup vs)) :=
  P m _ _ (Step.of (same_upd hp)) (R.same (same_upd hp)) (.v (.tup (.inl (.inl upd_same)) (Vls.step (Step.of (same_upd hp)) h)) fun e => nomatch e)
/-- the items of a list -/
def listOf (st : Store) : AV → Option (List AV)
  | .v (.lst _ xs) _ => some (xs.map (AV.v · false))
  | .ref n => match st[n]? with
    | some (.lst xs) => some xs
    | _ => none
  | _ => none
theorem listOf_ok (R : Rel F m st S σ H) {x : AV} {v : V} {xs : List AV} (h : AVal F m st.length H x v) (e : listOf st x = some xs) : ∃ a vs, v = .ref a ∧ H a = some (.lst vs) ∧ AVls0 F m st.length H xs vs := by
  cases h with
  | v h _ =>
    cases h with
    | lst h l r => cases e; exact ⟨_, _, rfl, h, AVls.zero (Vls.avls r)⟩
    | _ => cases e
  | ref h =>
    rename_i n
    cases q : st[n]? with
    | none => simp only [listOf, q] at e; cases e
    | some o =>
      simp only [listOf, q] at e
      obtain ⟨u, h1, h2⟩ := R.sto n o q
      cases h2 with
      | lst h2 => cases e; exact ⟨_, _, rfl, h1, h2⟩
      | _ => cases e
theorem tup_ok {ps : List PV} {fr : Bool} {v : V} (h : AVal F m N H (.v (.tup ps) fr) v) : ∃ a vs, v = .ref a ∧ SqT F.c.K H a vs ∧ Vls F.c (Lw F m N) H ps vs := by
  cases h with
  | v h _ =>
    cases h with
    | tup h r => exact ⟨_, _, rfl, h, r⟩
theorem scr_sq {K : PySem.W.Frag} {a : Addr} {ns : List Int} (h : (∃ o, H a = some (.frz o (.lst (ns.map V.int)))) ∨ SqL K (fun _ => none) a (ns.map V.int)) : SqL K H a (ns.map V.int) := by
  rcases h with ⟨o, h⟩ | h
  · exact .inl (.inr ⟨o, h⟩)
  · rcases h with h | h
    · rcases h with h | ⟨o, h⟩ <;> cases h
    · exact .inr h
theorem scr_ok {ns : List Int} {fr : Bool} {v : V} (h : AVal F m N H (.v (.scr ns) fr) v) : ∃ a, v = .ref a ∧ SqL F.c.K H a (ns.map V.int) := by
  cases h with
  | v h _ =>
    cases h with
    | scr h => exact ⟨_, rfl, scr_sq h⟩
theorem ints_vls {L : Bool → Addr → Prop} : ∀ ns : List Int, Vls c L H (ns.map PV.int) (ns.map V.int)
  | [] => .nil
  | n :: ns => .cons (.int n) (ints_vls ns)
end

/-! ### displays -/
section
variable {X : Cx} {c : Ct} {W : WX} {es : List Expr} {da : DA} {pos : Pos}
def dTup (da : DA) : DE := fun S st => (da S st).then fun xs st1 => match toPs xs with
  | some ps => bif Nat.ble ps.length 1000000 then .ok (.v (.tup ps) false) st1 else .bad
  | none => .bad
def dLst (r : Bool) (da : DA) : DE := fun S st => (da S st).then fun xs st1 => bif Nat.ble xs.length 1000000 then newL r xs st1 else .bad
theorem le_line {n : Nat} (h : Nat.ble n 1000000 = true) : n ≤ sizeLine := Nat.le_trans (Nat.le_of_ble_eq_true h) (by decide)
theorem pea_tup {x1} (h : PAA X c W es da) : PEA X c W (.Tuple es x1 pos) (dTup da) := (pe_tup h).imp fun σ H Q ⟨F, m, s, S, hc, R, P⟩ =>
  ⟨F, m, s, S, hc, R, (PostE.bind P).imp fun vs H1 ⟨m1, s1, xs, _, a1, R1, r1, P1⟩ => by
    have hl := Paired.length r1
    cases e : toPs xs with
    | none => rw [e] at P1; exact P1.elim
    | some ps =>
      rw [e] at P1
      have v := toPs_ok (AVls.zero r1) e
      have hl2 := Vls.length v
      cases q : Nat.ble ps.length 1000000 with
      | false => simp only [q, cond_false] at P1; exact P1.elim
      | true =>
        simp only [q, cond_true] at P1
        exact ⟨by rw [← hl2]; exact le_line q, fun p hp => newT_ok R1 hp v P1⟩⟩
theorem pea_lst (r : Bool) (h : PAA X c W es da) : PEA X c W (.List es pos) (dLst r da) := (pe_lst h).imp fun σ H Q ⟨F, m, s, S, hc, R, P⟩ =>
  ⟨F, m, s, S, hc, R, (PostE.bind P).imp fun vs H1 ⟨m1, s1, xs, _, a1, R1, r1, P1⟩ => by
    have hl := Paired.length r1
    cases q : Nat.ble xs.length 1000000 with
    | false => simp only [q, cond_false] at P1; exact P1.elim
    | true =>
      simp only [q, cond_true] at P1
      exact ⟨by rw [← hl]; exact le_line q, fun p hp => newL_ok R1 hp (AVls.zero r1) P1⟩⟩
end

/-! ### operators on ints and the like -/
section
variable {X : Cx} {c : Ct}
/-- two ints -/
def dI2 (C : Int → Int → Bool) (g : Int → Int → PV) : AV → AV → Store → Res AV := fun x y st => match x, y with
  | .v (.int i) _, .v (.int j) _ => bif C i j then .ok (.v (g i j) false) st else .bad
  | _, _ => .bad
theorem r2_int {C : Int → Int → Bool} {C' : Int → Int → Prop} {g : Int → Int → PV} {g' : Int → Int → V} (hC : ∀ i j, C i j = true → C' i j) (hg : ∀ c L H i j, Val c L H (g i j) (g' i j)) : R2ok c (rI C' g') (dI2 C g) := by
  intro W F m st S σ H x y v w Q hc R rx ry P
  unfold dI2 at P
  split at P
  · rename_i i _ j _
    cases q : C i j with
    | false => rw [q] at P; exact P.elim
    | true =>
      rw [q] at P
      exact ⟨i, j, isI rx, isI ry, hC i j q, PostE.here P R (.v (hg _ _ _ i j) fun e => nomatch e)⟩
  · exact P.elim
theorem r2_int0 {g : Int → Int → PV} {g' : Int → Int → V} (hg : ∀ c L H i j, Val c L H (g i j) (g' i j)) : R2ok c (rI0 g') (dI2 (fun _ _ => true) g) := fun W F m st S σ H x y v w Q hc R rx ry P => by
  obtain ⟨i, j, e1, e2, _, q⟩ := r2_int (c := c) (C := fun _ _ => true) (C' := fun _ _ => True) (fun _ _ _ => trivial) hg W F m st S σ H x y v w Q hc R rx ry P
  exact ⟨i, j, e1, e2, q⟩
abbrev fSub := dI2 (fun _ _ => true) fun i j => .int (i - j)
def mulC (i j : Int) : Bool := decide (i.natAbs.log2 + j.natAbs.log2 < 100000000)
abbrev fMul := dI2 mulC fun i j => .int (i * j)
abbrev fMod := dI2 (fun _ j => decide (j ≠ 0)) fun i j => .int (i.fmod j)
abbrev fDiv := dI2 (fun _ j => decide (j ≠ 0)) fun i j => .int (i.fdiv j)
abbrev fPow := dI2 (fun i j => decide (0 ≤ j) && decide (j ≤ 1000000) && decide (i.natAbs < 2 ^ 64)) fun i j => .int (i ^ j.toNat)
abbrev fShl := dI2 (fun i j => decide (0 ≤ j) && decide (j ≤ 1000000) && decide (i.natAbs < 2 ^ 64)) fun i j => .int (i * 2 ^ j.toNat)
abbrev fShr := dI2 (fun _ j => decide (0 ≤ j)) fun i j => .int (i / 2 ^ j.toNat)
abbrev fAnd := dI2 (fun _ _ => true) fun i j => .int (Builtin.bitAnd i j)
abbrev fOr := dI2 (fun _ _ => true) fun i j => .int (Builtin.bitOr i j)
abbrev fXor := dI2 (fun _ _ => true) fun i j => .int (Builtin.bitXor i j)
theorem r2_sub : R2ok c (rI0 fun i j => .int (i - j)) fSub := r2_int0 fun _ _ _ _ _ => .int _
theorem mulC_ok {i j : Int} (h : mulC i j = true) : IntMulOk i j := by
  have h3 : i.natAbs.log2 + j.natAbs.log2 < 100000000 := of_decide_eq_true h
  have b : ∀ x : Int, Builtin.Int.intBits x ≤ x.natAbs.log2 + 1 := fun x => by
    unfold Builtin.Int.intBits
    split <;> omega
  have h1 := b i
  have h2 := b j
  have e : bitsLine = 134217728 := by decide
  unfold IntMulOk
  intro z
  rw [Bool.and_eq_true] at z
  have z2 := z.2
  unfold Builtin.Int.intTooBig at z2
  have z3 := of_decide_eq_true z2
  rw [e] at z3
  omega
theorem op_mulA : OpR X (binaryOp .Mult) (rI (fun i j => mulC i j = true) fun i j => .int (i * j)) := opI fun _ _ _ _ _ _ _ hc q => mul_int q (mulC_ok hc)
theorem r2_mul : R2ok c (rI (fun i j => mulC i j = true) fun i j => .int (i * j)) fMul := r2_int (fun _ _ h => h) fun _ _ _ _ _ => .int _
theorem r2_mod : R2ok c (rI (fun _ j => j ≠ 0) fun i j => .int (i.fmod j)) fMod := r2_int (fun _ _ h => of_decide_eq_true h) fun _ _ _ _ _ => .int _
theorem r2_pow : R2ok c (rI CPow fun i j => .int (i ^ j.toNat)) fPow := r2_int (fun _ _ h => by
  rw [Bool.and_eq_true, Bool.and_eq_true] at h
  exact ⟨of_decide_eq_true h.1.1, of_decide_eq_true h.1.2, of_decide_eq_true h.2⟩) fun _ _ _ _ _ => .int _
theorem r2_shl : R2ok c (rI CPow fun i j => .int (i * 2 ^ j.toNat)) fShl := r2_int (fun _ _ h => by
  rw [Bool.and_eq_true, Bool.and_eq_true] at h
  exact ⟨of_decide_eq_true h.1.1, of_decide_eq_true h.1.2, of_decide_eq_true h.2⟩) fun _ _ _ _ _ => .int _
theorem r2_shr : R2ok c (rI (fun _ j => 0 ≤ j) fun i j => .int (i / 2 ^ j.toNat)) fShr := r2_int (fun _ _ h => of_decide_eq_true h) fun _ _ _ _ _ => .int _
theorem r2_and : R2ok c (rI0 fun i j => .int (Builtin.bitAnd i j)) fAnd := r2_int0 fun _ _ _ _ _ => .int _
theorem r2_or : R2ok c (rI0 fun i j => .int (Builtin.bitOr i j)) fOr := r2_int0 fun _ _ _ _ _ => .int _
theorem r2_xor : R2ok c (rI0 fun i j => .int (Builtin.bitXor i j)) fXor := r2_int0 fun _ _ _ _ _ => .int _
/-- // by any number but 0 -/
theorem op_fdivA (cn : Cn X c) : OpR X (binaryOp .FloorDiv) (rI (fun _ j => j ≠ 0) fun i j => .int (i.fdiv j)) := by
  intro pins s σ H x y v u Q I rx ry ⟨i, j, e1, e2, hj, q⟩
  subst e1 e2
  obtain ⟨t, rfl⟩ := rx
  obtain ⟨t', rfl⟩ := ry
  refine floordiv_int hj ⟨.int _, H, I.tok _, ⟨_, rfl⟩, q⟩ (.inr ?_)
  obtain ⟨e, l, hs, h1, h2, h3, h4⟩ := cn.stk
  refine PylongRoom.of I.nolimit ?_ (SeerAt.of (cn.no.keeps I.bk) cn.tree (by rw [I.ok.frames, hs]) h1 h2 h3 h4)
  have := cn.room.dp
  have e : Builtin.pylongFrames = 100 := rfl
  omega
theorem r2_fdiv : R2ok c (rI (fun _ j => j ≠ 0) fun i j => .int (i.fdiv j)) fDiv := r2_int (fun _ _ h => of_decide_eq_true h) fun _ _ _ _ _ => .int _
abbrev fLt := dI2 (fun _ _ => true) fun i j => .bl (decide (i < j))
abbrev fLe := dI2 (fun _ _ => true) fun i j => .bl (decide (i ≤ j))
abbrev fGt := dI2 (fun _ _ => true) fun i j => .bl (decide (j < i))
abbrev fGe := dI2 (fun _ _ => true) fun i j => .bl (decide (j ≤ i))
theorem r2_lt : R2ok c (rI0 fun i j => .bl (decide (i < j))) fLt := r2_int0 fun _ _ _ _ _ => .bl _
theorem r2_le : R2ok c (rI0 fun i j => .bl (decide (i ≤ j))) fLe := r2_int0 fun _ _ _ _ _ => .bl _
theorem r2_gt : R2ok c (rI0 fun i j => .bl (decide (j < i))) fGt := r2_int0 fun _ _ _ _ _ => .bl _
theorem r2_ge : R2ok c (rI0 fun i j => .bl (decide (j ≤ i))) fGe := r2_int0 fun _ _ _ _ _ => .bl _
/-- + of ints, texts, lists, tuples -/
def fAdd (r : Bool) : AV → AV → Store → Res AV := fun x y st => match x, y with
  | .v (.int i) _, .v (.int j) _ => .ok (.v (.int (i + j)) false) st
  | .v (.str a) _, .v (.str b) _ => bif Nat.ble (a.length + b.length) 1000000 then .ok (.v (.str (a ++ b)) false) st else .bad
  | .v (.tup a) _, .v (.tup b) _ => bif !a.isEmpty && Nat.ble (a.length + b.length) 1000000 then .ok (.v (.tup (a ++ b)) false) st else .bad
  | _, _ => match listOf st x, listOf st y with
    | some xs, some ys => bif Nat.ble (xs.length + ys.length) 1000000 then newL r (xs ++ ys) st else .bad
    | _, _ => .bad
abbrev rAddA (K : PySem.W.Frag) : R2 := fun x y H Q => rI0 (fun i j => .int (i + j)) x y H Q ∨ (fun x y H Q => (fun x y H Q => ∃ i j, x = V.str i ∧ y = V.str j ∧ i.length + j.length ≤ sizeLine ∧ Q (V.str (i ++ j)) H) x y H Q ∨ (fun x y H Q => rCatT K x y H Q ∨ rCat x y H Q) x y H Q) x y H Q
theorem op_addA : OpR X (binaryOp .Add) (rAddA X.K) := op_add.or (op_add_str.or (op_catT.or op_cat))
theorem r2_add (r : Bool) : R2ok c (rAddA c.K) (fAdd r) := by
  intro W F m st S σ H x y v w Q hc R rx ry P
  have lists : (PostE rV W F m st.length H S σ (match listOf st x, listOf st y with
    | some xs, some ys => bif Nat.ble (xs.length + ys.length) 1000000 then newL r (xs ++ ys) st else .bad
    | _, _ => .bad) Q) → rAddA c.K v w H Q := by
    intro P
    cases e1 : listOf st x with
    | none => rw [e1] at P; exact P.elim
    | some xs =>
      cases e2 : listOf st y with
      | none => rw [e1, e2] at P; exact P.elim
      | some ys =>
        rw [e1, e2] at P
        obtain ⟨a, vs, rfl, h1, r1⟩ := listOf_ok R rx e1
        obtain ⟨b, ws, rfl, h2, r2⟩ := listOf_ok R ry e2
        simp only at P
        cases q : Nat.ble (xs.length + ys.length) 1000000 with
        | false => rw [q] at P; exact P.elim
        | true =>
          rw [q] at P
          exact .inr (.inr (.inr ⟨a, b, vs, ws, rfl, rfl, h1, h2, by rw [← Paired.length r1, ← Paired.length r2]; exact le_line q, fun p hp => newL_ok R hp (pairedAppend r1 r2) P⟩))
  unfold fAdd at P
  split at P
  · exact .inl ⟨_, _, isI rx, isI ry, PostE.here P R (.v (.int _) fun e => nomatch e)⟩
  · rename_i a _ b _
    cases q : Nat.ble (a.length + b.length) 1000000 with
    | false => rw [q] at P; exact P.elim
    | true =>
      rw [q] at P
      exact .inr (.inl ⟨_, _, isS rx, isS ry, le_line q, PostE.here P R (.v (.str _) fun e => nomatch e)⟩)
  · rename_i a _ b _
    obtain ⟨p1, vs, rfl, h1, r1⟩ := tup_ok rx
    obtain ⟨p2, ws, rfl, h2, r2⟩ := tup_ok ry
    cases q : (!a.isEmpty && Nat.ble (a.length + b.length) 1000000) with
    | false => rw [q] at P; exact P.elim
    | true =>
      rw [q] at P
      rw [Bool.and_eq_true] at q
      have l1 := Vls.length r1
      have l2 := Vls.length r2
      rw [hc] at h1 h2
      refine .inr (.inr (.inl ⟨p1, p2, vs, ws, rfl, rfl, h1, h2, ?_, by rw [← l1, ← l2]; exact le_line q.2, ?_, ?_⟩))
      · intro z; subst z
        have : a = [] := by simpa using l1
        subst this; simp at q
      · intro z; subst z
        have : b = [] := by simpa using l2
        subst this
        rw [List.append_nil] at P
        exact PostE.here P R (.v (.tup (hc ▸ h1) r1) fun e => nomatch e)
      · intro _ p hp
        exact newT_ok R hp (Vls.append r1 r2) P
  · exact lists P
end
end A

/-! The A-layer, part 3: defs: their promises by denotations, their bodies, their calls. -/
namespace A
open PySem PySem.Spec PyProof.Rows L2

/-! ### the store's things as values -/
/-- all or none -/
def optAll {α : Type} : List (Option α) → Option (List α)
  | [] => some []
  | some x :: r => (optAll r).map (x :: ·)
  | none :: _ => none
def viewN (t : Bool) (st : Store) : Nat → AV → Option PV
  | _, .v p _ => some p
  | 0, .ref _ => none
  | k + 1, .ref n => match st[n]? with
    | some (.lst xs) => (optAll (xs.map (viewN t st k))).map (.lst t)
    | some (.dK kvs) => (optAll (kvs.map fun q => viewN t st k q.2)).map (.dct t (kvs.map (·.1)))
    | some (.ins C fs) => (optAll (fs.map fun q => viewN t st k q.2)).map (.obj t C (fs.map (·.1)))
    | _ => none
abbrev view (t : Bool) (st : Store) (x : AV) : Option PV := viewN t st 12 x
theorem view_v {t : Bool} {st : Store} {p : PV} {fr : Bool} : view t st (.v p fr) = some p := rfl
def views (t : Bool) (st : Store) (xs : List AV) : Option (List PV) := optAll (xs.map (view t st))
section
variable {F : Fix} {m : Nat → Addr} {H : Hp} {S : Slots} {σ : St} {st : Store} {L : Bool → Addr → Prop}
theorem optAll_ok {α β : Type} {P : α → β → Prop} {f : α → Option PV} {V' : PV → β → Prop} (h : ∀ a b p, P a b → f a = some p → V' p b) : ∀ {xs : List α} {vs : List β} {ps : List PV}, Paired P xs vs → optAll (xs.map f) = some ps → Paired V' ps vs
  | [], _, ps, .nil, e => by cases e; exact .nil
  | x :: xs, v :: vs, ps, .cons a r, e => by
    rw [List.map_cons] at e
    cases q : f x with
    | none => rw [q] at e; cases e
    | some p =>
      rw [q] at e
      cases q2 : optAll (xs.map f) with
      | none => simp only [optAll, q2] at e; cases e
      | some ps' =>
        simp only [optAll, q2] at e
        cases e
        exact .cons (h _ _ _ a q) (optAll_ok h r q2)
theorem vls_of {c : Ct} : ∀ {ps : List PV} {vs : List V}, Paired (fun p v => Val c L H p v) ps vs → Vls c L H ps vs
  | _, _, .nil => .nil
  | _, _, .cons h r => .cons h (vls_of r)
theorem of_vls {c : Ct} : ∀ {ps : List PV} {vs : List V}, Vls c L H ps vs → Paired (fun p v => Val c L H p v) ps vs
  | _, _, .nil => .nil
  | _, _, .cons h r => .cons h (of_vls r)
theorem zip_fst {κ : Type} {P : κ × AV → κ × V → Prop} (h : ∀ p q, P p q → p.1 = q.1) : ∀ {kvs : List (κ × AV)} {us : List (κ × V)}, Paired P kvs us → us = (kvs.map (·.1)).zip (us.map (·.2))
  | _, _, .nil => rfl
  | p :: _, q :: _, .cons a r => by
    rw [List.map_cons, List.map_cons, List.zip_cons_cons, ← zip_fst h r, h _ _ a]
theorem viewN_ok (R : Rel F m st S σ H) {t : Bool} (kL : ∀ t a, Lw F m st.length t a → H a ≠ none → L t a) (kS : ∀ i, i < st.length → L t (m i)) :
    ∀ (k : Nat) (x : AV) (v : V) (p : PV), AVal0 F m st.length H x v → viewN t st k x = some p → Val F.c L H p v
  | k, .v q fr, v, p, h, e => by
    have e : some q = some p := by cases k <;> exact e
    cases e
    cases h with
    | v h => exact Val.ground kL h
  | 0, .ref n, v, p, h, e => by cases e
  | k + 1, .ref n, v, p, h, e => by
    cases h with
    | ref hn =>
      have ih := viewN_ok R kL kS k
      cases q : st[n]? with
      | none => simp only [viewN, q] at e; cases e
      | some o =>
        obtain ⟨u, h1, h2⟩ := R.sto n o q
        cases h2 with
        | lst r =>
          simp only [viewN, q] at e
          cases q2 : optAll (List.map (viewN t st k) ‹List AV›) with
          | none => rw [q2] at e; cases e
          | some ps =>
            rw [q2] at e
            cases e
            exact .lst h1 (kS n hn) (vls_of (optAll_ok (V' := fun p v => Val F.c L H p v) (fun a b p h e => ih a b p h e) r q2))
        | dK r =>
          simp only [viewN, q] at e
          rename_i kvs us
          cases q2 : optAll (List.map (fun q => viewN t st k q.2) kvs) with
          | none => rw [q2] at e; cases e
          | some ps =>
            rw [q2] at e
            cases e
            have rr := optAll_ok (V' := fun (p : PV) (v : Key × V) => Val F.c L H p v.2) (f := fun (q : Key × AV) => viewN t st k q.2) (fun a b p h e => ih a.2 b.2 p h.2 e) r q2
            have rv : Vls F.c L H ps (us.map (·.2)) := vls_of (by
              clear q2 r h1 q
              induction rr with
              | nil => exact .nil
              | cons a _ ih => exact .cons a ih)
            refine .dct (vs := us.map (·.2)) ?_ ?_ (kS n hn) rv
            · rw [← zip_fst (fun _ _ h => h.1) r]; exact h1
            · rw [List.length_map, List.length_map, Paired.length r]
        | dT r => simp only [viewN, q] at e; cases e
        | ins r =>
          simp only [viewN, q] at e
          rename_i C dx fs us
          cases q2 : optAll (List.map (fun q => viewN t st k q.2) fs) with
          | none => rw [q2] at e; cases e
          | some ps =>
            rw [q2] at e
            cases e
            have rr := optAll_ok (V' := fun (p : PV) (v : Str × V) => Val F.c L H p v.2) (f := fun (q : Nat × AV) => viewN t st k q.2) (fun a b p h e => ih a.2 b.2 p h.2 e) r q2
            have rv : Vls F.c L H ps (us.map (·.2)) := vls_of (by
              clear q2 r h1 q
              induction rr with
              | nil => exact .nil
              | cons a _ ih => exact .cons a ih)
            refine .obj (vs := us.map (·.2)) (dx := dx) ?_ ?_ (kS n hn) rv
            · have : us = ((fs.map (·.1)).map F.c.fn).zip (us.map (·.2)) := by
                clear rv rr q2 q h1 ih
                induction r with
                | nil => rfl
                | cons a _ ih =>
                  rename_i p q _ _ _
                  rw [List.map_cons, List.map_cons, List.map_cons, List.zip_cons_cons, ← ih, a.1]
              rw [← this]; exact h1
            · rw [List.length_map, List.length_map, Paired.length r]
theorem views_ok (R : Rel F m st S σ H) {t : Bool} (kL : ∀ t a, Lw F m st.length t a → H a ≠ none → L t a) (kS : ∀ i, i < st.length → L t (m i)) {xs : List AV} {vs : List V} {ps : List PV}
    (h : AVls0 F m st.length H xs vs) (e : views t st xs = some ps) : Vls F.c L H ps vs :=
  vls_of (optAll_ok (V' := fun p v => Val F.c L H p v) (fun a b p h e => viewN_ok R kL kS 12 a b p h e) h e)
/-- where nothing of the store is named -/
theorem views_flat (kL : ∀ t a, Lw F m st.length t a → H a ≠ none → L t a) {xs : List AV} {vs : List V} {ps : List PV} (h : AVls0 F m st.length H xs vs) (e : toPs xs = some ps) : Vls F.c L H ps vs := Vls.ground kL (toPs_ok h e)
end

/-! ### promises -/
/-- a def without changes: from its arguments' values to its answer -/
def spP (c : Ct) (n : Nat) (den : PDen) : Sp := fun vs H Q E => vs.length = n ∧ ∃ (A B : Addr → Prop) (ps : List PV), (∀ p, H p = none → A p) ∧ Vls c (LL A B) H ps vs ∧
  match den ps with
  | .ok p fr => ∀ v H', Same H H' → Val c (LL A B) H' p v → (fr = true → FreshP c (LL A B) H H' p v) → Q v H'
  | .ex e => ∀ cls d H', Same H H' → ERep c (LL A B) H' e cls d → E cls d H'
  | .bad => False
/-- a def that may change what it is handed -/
def spI (c : Ct) (n : Nat) (den : IDen) : Sp := fun vs H Q E => vs.length = n ∧ ∃ (F : Fix) (m : Nat → Addr) (st : Store) (xs : List AV), F.c = c ∧ F.H0 = H ∧ (F.O0 = fun a => ∃ i, i < st.length ∧ m i = a) ∧ Rel F m st [] [] H ∧ AVls0 F m st.length H xs vs ∧
  match den xs st with
  | .ok x st' => ∀ m' v H', Step m st.length H m' st'.length H' → Rel F m' st' [] [] H' → AVal F m' st'.length H' x v → Q v H'
  | .ex e st' => ∀ m' H' cls d, Step m st.length H m' st'.length H' → Rel F m' st' [] [] H' → ERep F.c (Lw F m' st'.length) H' e cls d → E cls d H'
  | .bad => False
/-- the slots at a def's start -/
def slots0 (N : Nat) (xs : List AV) : Slots := xs.map (fun x => some (strip x)) ++ List.replicate (N - xs.length) none
def freeze (st : Store) (x : AV) : PRes := match x with
  | .v p fr => .ok p fr
  | .ref n => match viewN true st 12 (.ref n) with
    | some (.lst t xs) => .ok (.lst t xs) (match st[n]? with
      | some (.lst ys) => (toPs ys).isSome
      | _ => false)
    | some p => .ok p false
    | none => .bad
/-- a body run as a def without changes (N: how many slots) -/
def runP (N : Nat) (d : DS) : PDen := fun ps => match d (slots0 N (ps.map (AV.v · false))) [] with
  | .nx _ _ => .ok .non false
  | .rt x st => freeze st x
  | .ex e _ _ => .ex e
  | _ => .bad
def runI (N : Nat) (d : DS) : IDen := fun xs st => match d (slots0 N xs) st with
  | .nx _ st' => .ok (.v .non false) st'
  | .rt x st' => .ok x st'
  | .ex e _ st' => .ex e st'
  | _ => .bad
section
variable {F : Fix} {m : Nat → Addr} {H : Hp} {N : Nat}
theorem slots_rel {K : Nat} : ∀ {xs : List AV} {vs : List V}, AVls0 F m K H xs vs → ∀ (i : Nat) (x : AV), (slots0 N xs)[i]? = some (some x) → ∃ v, (vs.map some ++ List.replicate (N - xs.length) (none : Option V))[i]? = some (some v) ∧ AVal F m K H x v := by
  intro xs vs h i x e
  unfold slots0 at e
  have hl := Paired.length h
  by_cases hi : i < xs.length
  · rw [List.getElem?_append_left (by simpa using hi), List.getElem?_map] at e
    rw [List.getElem?_append_left (by simpa [← hl] using hi), List.getElem?_map]
    rw [List.getElem?_eq_getElem hi] at e
    simp only [Option.map_some, Option.some.injEq] at e
    subst e
    have hi2 : i < vs.length := by omega
    rw [List.getElem?_eq_getElem hi2]
    refine ⟨vs[i], rfl, AVal0.strip ?_⟩
    clear hl
    induction h generalizing i with
    | nil => simp at hi
    | cons a _ ih =>
      cases i with
      | zero => exact a
      | succ i => simpa using ih i (by simpa using hi) (by simpa using hi2)
  · rw [List.getElem?_append_right (by simpa using hi)] at e
    rw [List.getElem?_replicate] at e
    split at e <;> cases e
end
/-- the body of a def without changes keeps its promise -/
theorem spP_body {c : Ct} {N n : Nat} {d : DS} {names : List Str} {vs : List V} {H : Hp} {Q : VK} {E : XK} (hN : names.length = N) (h : spP c n (runP N d) vs H Q E) :
    tS c (fun cls dx _ H => E cls dx H) d { nx := fun _ H' => Q .non H', rt := Q } (L2.start names vs) H := by
  obtain ⟨hn, A, B, ps, hA, hv, P⟩ := h
  let F : Fix := ⟨c, A, B, fun _ => False, H, fun _ => False, hA⟩
  have hv0 : Vls F.c (Lw F (fun _ => 0) 0) H ps vs := Vls.ground (fun t a l e => ⟨l, fun z => z, fun i hi => absurd hi (Nat.not_lt_zero _)⟩) hv
  have R : Rel F (fun _ => 0) [] (slots0 N (ps.map (AV.v · false))) (L2.start names vs) H := by
    refine ⟨fun i j hi => absurd hi (Nat.not_lt_zero _), fun i hi => absurd hi (Nat.not_lt_zero _), fun b o h _ => h, fun b o h _ => h, fun b h => h, fun b z => z.elim, fun i o e => by simp at e, ?_, ?_⟩
    · unfold slots0 L2.start
      simp [hN, Vls.length hv]
    · intro i x e
      have := slots_rel (N := N) (AVls.zero (Vls.avls hv0)) i x e
      unfold L2.start
      rw [hN]
      simpa [Vls.length hv] using this
  refine ⟨F, fun _ => 0, [], _, rfl, R, ?_⟩
  have same : ∀ {m' N' H'}, Step (fun _ => 0) ([] : Store).length H m' N' H' → Same H H' := fun s b o h => s.keep b o h fun i hi => absurd hi (Nat.not_lt_zero _)
  have gr : ∀ {m' : Nat → Addr} {N' : Nat} {H' : Hp} (t : Bool) (a : Addr), Lw F m' N' t a → H' a ≠ none → LL A B t a := fun t a l _ => l.1
  unfold runP at P
  cases e : d (slots0 N (ps.map (AV.v · false))) [] with
  | nx S' st' =>
    rw [e] at P
    exact fun m' σ' H' a b => P _ H' (same a) .non fun z => nomatch z
  | rt x st' =>
    rw [e] at P
    intro m' v H' a R' rv
    simp only at P
    cases x with
    | v p fr =>
      cases rv with
      | v h f =>
        refine P v H' (same a) (Val.ground gr h) fun z => ?_
        obtain ⟨t, xs, b, us, rfl, rfl, h0, hb, r⟩ := f z
        exact ⟨t, xs, b, us, rfl, rfl, h0, hb, Vls.ground (fun t a l _ => ⟨l.1.1, l.2⟩) r⟩
    | ref k =>
      cases rv with
      | ref hk =>
        have hmk : ∀ i, i < st'.length → H (m' i) = none := fun i hi => a.new i (Nat.zero_le _) hi
        have vk : ∀ q, viewN true st' 12 (.ref k) = some q → Val c (LL A B) H' q (.ref (m' k)) := fun q eq => viewN_ok R' gr (fun i hi => show if true = true then A _ else B _ from by rw [if_pos rfl]; exact hA _ (hmk i hi)) 12 (.ref k) _ q (.ref hk) eq
        unfold freeze at P
        simp only at P
        cases q : viewN true st' 12 (.ref k) with
        | none => rw [q] at P; exact P.elim
        | some p =>
          rw [q] at P
          have vp := vk p q
          cases p with
          | lst t xs =>
            simp only at P
            refine P _ H' (same a) vp fun z => ?_
            cases e2 : st'[k]? with
            | none => rw [e2] at z; cases z
            | some o =>
              rw [e2] at z
              obtain ⟨u, h1, h2⟩ := R'.sto k o e2
              cases h2 with
              | lst r =>
                simp only at z
                cases e3 : toPs ‹List AV› with
                | none => rw [e3] at z; cases z
                | some qs =>
                  have rq := toPs_ok r e3
                  have eq : xs = qs := by
                    have : viewN true st' 12 (.ref k) = some (.lst true qs) := by
                      have all : ∀ (ys : List AV) (qs : List PV), toPs ys = some qs → optAll (ys.map (viewN true st' 11)) = some qs := by
                        intro ys
                        induction ys with
                        | nil => intro qs e; exact e
                        | cons y ys ih =>
                          intro qs e
                          cases y with
                          | ref n => cases e
                          | v p fr =>
                            unfold toPs at e
                            cases e5 : toPs ys with
                            | none => rw [e5] at e; cases e
                            | some rs =>
                              rw [e5] at e
                              cases e
                              rw [List.map_cons]
                              show Option.map (p :: ·) (optAll (ys.map (viewN true st' 11))) = _
                              rw [ih rs e5]; rfl
                      simp only [viewN, e2]
                      rw [all _ _ e3]; rfl
                    rw [q] at this; cases this; rfl
                  subst eq
                  refine ⟨t, xs, m' k, _, rfl, rfl, hmk k hk, h1, Vls.ground (fun t b l _ => ⟨l.1, fun z => l.2.2 k hk z.symm⟩) rq⟩
              | _ => cases z
          | _ => exact P _ H' (same a) vp fun z => nomatch z
  | ex x S' st' =>
    rw [e] at P
    intro m' σ' H' cls dd a R' er
    exact P cls dd H' (same a) (er.mono (fun _ _ h _ => h) (fun _ _ _ _ h => h) gr)
  | bk S' st' => rw [e] at P; exact P.elim
  | ct S' st' => rw [e] at P; exact P.elim
  | bad => rw [e] at P; exact P.elim
theorem spI_body {c : Ct} {N n : Nat} {d : DS} {names : List Str} {vs : List V} {H : Hp} {Q : VK} {E : XK} (hN : names.length = N) (h : spI c n (runI N d) vs H Q E) :
    tS c (fun cls dx _ H => E cls dx H) d { nx := fun _ H' => Q .non H', rt := Q } (L2.start names vs) H := by
  obtain ⟨hn, F, m, st, xs, hc, hH, hO, R0, hv, P⟩ := h
  have hl := Paired.length hv
  have R : Rel F m st (slots0 N xs) (L2.start names vs) H := by
    refine R0.slots ?_ ?_
    · unfold slots0 L2.start
      simp [hN, hl]
    · intro i x e
      have := slots_rel (N := N) hv i x e
      unfold L2.start
      rw [hN]
      simpa [hl] using this
  refine ⟨F, m, st, _, hc, R, ?_⟩
  unfold runI at P
  cases e : d (slots0 N xs) st with
  | nx S' st' =>
    rw [e] at P
    exact fun m' σ' H' a b => P m' .non H' a b.bare (.v .non fun z => nomatch z)
  | rt x st' => rw [e] at P; exact P
  | ex x S' st' =>
    rw [e] at P
    exact fun m' σ' H' cls dd a b er => P m' H' cls dd a b.bare er
  | bk S' st' => rw [e] at P; exact P.elim
  | ct S' st' => rw [e] at P; exact P.elim
  | bad => rw [e] at P; exact P.elim

/-! ### a def of the module -/
/-- what is known of the whole: the program, the world, the top's facts -/
structure Gd where
  P : Program
  w : World
  c : Ct
  mg : Str → Option Value
  base : Heap
  no : base.NoSeer
  tree : P.given.tree = none
/-- the def at f keeps the promise, at level k -/
def FnAt (g : Gd) (k : Nat) (f : Addr) (n : Nat) (ds : List Value) (sp : Sp) : Prop :=
  PySem.W.keepIn g.c.K (.ref f) = true ∧ ∃ fd ps, Binds g.c.K fd ps ds ∧ ps.length = n ∧ FnOk g.P g.w g.c.K g.mg g.base (L2.CX g.P g.w) k f fd ps sp
theorem FnAt.mono {g : Gd} {j k : Nat} {f : Addr} {n : Nat} {ds : List Value} {sp : Sp} (h : FnAt g j f n ds sp) (l : j ≤ k) : FnAt g k f n ds sp := by
  obtain ⟨h1, fd, ps, h2, h3, h4⟩ := h
  exact ⟨h1, fd, ps, h2, h3, h4.mono l⟩
/-- the context fits what is known -/
structure Cg (X : Cx) (g : Gd) : Prop where
  P : X.prog = g.P
  w : X.w = g.w
  K : X.K = g.c.K
  mg : X.mg = g.mg
  base : X.base = g.base
  calm : X.calm = true
  nd : X.N.Nodup
  pas : PassesOwn (model X.prog X.w) X.A X.env X.xe
  stk : ∃ e l, X.stack = e :: l ∧ e.scope.isGenerator = false ∧ e.scope.isCoroutine = false ∧ e.builtins = builtinsNs ∧ e.globals = mainGlobals
theorem Cg.cn {X : Cx} {g : Gd} (h : Cg X g) (r : Room 40 X.A) : Cn X g.c := ⟨h.K.symm, h.calm, h.nd, h.pas, r, by rw [h.base]; exact g.no, by rw [h.P]; exact g.tree, h.stk⟩
abbrev FunOf (g : Gd) (x qual : Str) (st : Stmt) (f : Addr) (fd : FuncData) : Prop := FunD g.c.K x qual (defArgs st) (defBody st) (defScope st) [] [] f fd
end A

/-! The A-layer, part 4: calls. -/
namespace A
open PySem PySem.Spec PyProof.Rows L2

mutual
/-- nothing lent is named -/
def noBor : PV → Bool
  | .tup xs => noBors xs
  | .lst t xs => t && noBors xs
  | .dct t _ xs => t && noBors xs
  | .obj t _ _ xs => t && noBors xs
  | _ => true
def noBors : List PV → Bool
  | [] => true
  | x :: xs => noBor x && noBors xs
end
mutual
theorem Val.noBor {c : Ct} {L L' : Bool → Addr → Prop} {H : Hp} (kL : ∀ a, L true a → H a ≠ none → L' true a) : ∀ {p : PV} {v : V}, Val c L H p v → noBor p = true → Val c L' H p v
  | _, _, .non, _ => .non
  | _, _, .bl b, _ => .bl b
  | _, _, .int b, _ => .int b
  | _, _, .str b, _ => .str b
  | _, _, .tup h r, e => .tup h (Vls.noBor kL r (by simpa [A.noBor] using e))
  | _, _, .lst (t := t) h l r, e => by
    simp only [A.noBor, Bool.and_eq_true] at e
    obtain ⟨e1, e2⟩ := e
    subst e1
    exact .lst h (kL _ l (some_ne h)) (Vls.noBor kL r e2)
  | _, _, .dct (t := t) h z l r, e => by
    simp only [A.noBor, Bool.and_eq_true] at e
    obtain ⟨e1, e2⟩ := e
    subst e1
    exact .dct h z (kL _ l (some_ne h)) (Vls.noBor kL r e2)
  | _, _, .obj (t := t) h z l r, e => by
    simp only [A.noBor, Bool.and_eq_true] at e
    obtain ⟨e1, e2⟩ := e
    subst e1
    exact .obj h z (kL _ l (some_ne h)) (Vls.noBor kL r e2)
  | _, _, .scr h, _ => .scr h
  | _, _, .ty n, _ => .ty n
  | _, _, .cls n, _ => .cls n
theorem Vls.noBor {c : Ct} {L L' : Bool → Addr → Prop} {H : Hp} (kL : ∀ a, L true a → H a ≠ none → L' true a) : ∀ {p : List PV} {v : List V}, Vls c L H p v → noBors p = true → Vls c L' H p v
  | _, _, .nil, _ => .nil
  | _, _, .cons h r, e => by
    simp only [A.noBors, Bool.and_eq_true] at e
    exact .cons (Val.noBor kL h e.1) (Vls.noBor kL r e.2)
end
/-- what a def without changes gives, as a result here -/
def PRes.res (r : PRes) (k : PV → Bool → Res AV) (st : Store) : Res AV := match r with
  | .ok p fr => k p fr
  | .ex e => .ex e st
  | .bad => .bad
/-- the arguments as values; what is lent must not come back -/
def callP (den : PDen) (xs : List AV) (st : Store) : Res AV := match toPs xs with
  | some ps => (den ps).res (fun p fr => .ok (.v p fr) st) st
  | none => match views false st xs with
    | some ps => match den ps with
      | .ok p fr => bif noBor p then .ok (.v p fr) st else .bad
      | .ex e => bif e.fs.all (fun q => noBor q.2) then .ex e st else .bad
      | .bad => .bad
    | none => .bad
/-- the answer, a new list, goes into the store -/
def pushP (p : PV) (fr : Bool) (st : Store) : Res AV := match p, fr with
  | .lst _ ys, true => .ok (.ref st.length) (st ++ [.lst (ys.map (AV.v · false))])
  | _, _ => .bad
def callU (den : PDen) (xs : List AV) (st : Store) : Res AV := match toPs xs with
  | some ps => (den ps).res (fun p fr => pushP p fr st) st
  | none => match views false st xs with
    | some ps => match den ps with
      | .ok p fr => bif noBor p then pushP p fr st else .bad
      | .ex e => bif e.fs.all (fun q => noBor q.2) then .ex e st else .bad
      | .bad => .bad
    | none => .bad
section
variable {c : Ct} {W : WX} {F : Fix} {m : Nat → Addr} {H : Hp} {S : Slots} {σ : St} {st : Store} {Q : VK} {den : PDen} {xs : List AV} {vs : List V} {n : Nat}
theorem lw_true {N : Nat} {a : Addr} : Lw F m N true a ↔ F.A a ∧ ¬ F.Z a ∧ ∀ i, i < N → m i ≠ a := by
  unfold Lw LL
  rw [if_pos rfl]
theorem lw_false {N : Nat} {a : Addr} : Lw F m N false a ↔ F.B a ∧ ¬ F.Z a ∧ ∀ i, i < N → m i ≠ a := by
  unfold Lw LL
  rw [if_neg Bool.false_ne_true]
/-- one core for both: K tells what is done with the answer -/
theorem call_core (R : Rel F m st S σ H) (rx : AVls0 F m st.length H xs vs) (hn : vs.length = n) {k : PV → Bool → Res AV}
    (hk : ∀ p fr v H', Same H H' → Rel F m st S σ H' → Val F.c (Lw F m st.length) H' p v → (fr = true → FreshP F.c (Lw F m st.length) H H' p v) → PostE rV W F m st.length H S σ (k p fr) Q → Q v H')
    (P : PostE rV W F m st.length H S σ (match toPs xs with
      | some ps => (den ps).res k st
      | none => match views false st xs with
        | some ps => match den ps with
          | .ok p fr => bif noBor p then k p fr else .bad
          | .ex e => bif e.fs.all (fun q => noBor q.2) then .ex e st else .bad
          | .bad => .bad
        | none => .bad) Q) : spP F.c n den vs H Q fun cls d H' => W cls d σ H' := by
  refine ⟨hn, ?_⟩
  have hA : ∀ p, H p = none → Lw F m st.length true p := fun p hp => R.free hp
  cases e : toPs xs with
  | some ps =>
    simp only [e] at P
    have eL : LL (Lw F m st.length true) (Lw F m st.length false) = Lw F m st.length := by
      funext t a
      cases t
      · show (if false = true then _ else _) = _
        rw [if_neg Bool.false_ne_true]
      · show (if true = true then _ else _) = _
        rw [if_pos rfl]
    refine ⟨Lw F m st.length true, Lw F m st.length false, ps, hA, by rw [eL]; exact toPs_ok rx e, ?_⟩
    rw [eL]
    cases q : den ps with
    | ok p fr =>
      rw [q] at P
      exact fun v H' s hv hf => hk p fr v H' s (R.same s) hv hf P
    | ex x =>
      rw [q] at P
      exact fun cls d H' s er => P m H' cls d (Step.of s) (R.same s) er
    | bad => rw [q] at P; exact P.elim
  | none =>
    simp only [e] at P
    cases e2 : views false st xs with
    | none => simp only [e2] at P; exact P.elim
    | some ps =>
      simp only [e2] at P
      have e3 : ∀ t a, LL (Lw F m st.length true) (fun _ => True) t a = (if t = true then Lw F m st.length true a else True) := fun _ _ => rfl
      refine ⟨Lw F m st.length true, fun _ => True, ps, hA, views_ok R (fun t a l _ => ?_) (fun i hi => ?_) rx e2, ?_⟩
      · cases t
        · show if false = true then _ else True
          rw [if_neg Bool.false_ne_true]; trivial
        · show if true = true then _ else True
          rw [if_pos rfl]; exact l
      · show if false = true then _ else True
        rw [if_neg Bool.false_ne_true]; trivial
      · have down : ∀ {H' : Hp} (a : Addr), LL (Lw F m st.length true) (fun _ => True) true a → H' a ≠ none → Lw F m st.length true a := fun a l _ => by
          have l : if true = true then Lw F m st.length true a else True := l
          rw [if_pos rfl] at l; exact l
        cases q : den ps with
        | ok p fr =>
          simp only [q] at P
          cases nb : noBor p with
          | false => rw [nb] at P; exact P.elim
          | true =>
            rw [nb] at P
            refine fun v H' s hv hf => hk p fr v H' s (R.same s) (Val.noBor down hv nb) (fun z => ?_) P
            obtain ⟨t, ys, a, us, rfl, rfl, h0, ha, r⟩ := hf z
            simp only [noBor, Bool.and_eq_true] at nb
            exact ⟨t, ys, a, us, rfl, rfl, h0, ha, Vls.noBor (fun b l e => ⟨down b l.1 e, l.2⟩) r nb.2⟩
        | ex x =>
          simp only [q] at P
          cases nb : x.fs.all (fun q => noBor q.2) with
          | false => rw [nb] at P; exact P.elim
          | true =>
            rw [nb] at P
            refine fun cls d H' s er => P m H' cls d (Step.of s) (R.same s) ?_
            obtain ⟨h1, h2⟩ := er
            refine ⟨h1, ?_⟩
            rcases h2 with h2 | ⟨dx, us, hd, hx, hf⟩
            · exact .inl h2
            · refine .inr ⟨dx, us, hd, hx, fun f p e => ?_⟩
              obtain ⟨v, a, b⟩ := hf f p e
              have : noBor p = true := by
                rw [List.all_eq_true] at nb
                obtain ⟨l1, l2, h, _⟩ := List.lookup_eq_some_iff.mp e
                exact nb (f, p) (by rw [h]; simp)
              exact ⟨v, a, Val.noBor down b this⟩
        | bad => simp only [q] at P; exact P.elim
theorem callP_ok (R : Rel F m st S σ H) (rx : AVls0 F m st.length H xs vs) (hn : vs.length = n) (P : PostE rV W F m st.length H S σ (callP den xs st) Q) : spP F.c n den vs H Q fun cls d H' => W cls d σ H' :=
  call_core (k := fun p fr => .ok (.v p fr) st) R rx hn (fun p fr v H' s R' hv hf P => P m v H' (Step.of s) R' (.v hv fun z => by
    obtain ⟨t, ys, a, us, h1, h2, h0, ha, r⟩ := hf z
    exact ⟨t, ys, a, us, h1, h2, R.h0 h0, ha, r⟩)) P
theorem callU_ok (R : Rel F m st S σ H) (rx : AVls0 F m st.length H xs vs) (hn : vs.length = n) (P : PostE rV W F m st.length H S σ (callU den xs st) Q) : spP F.c n den vs H Q fun cls d H' => W cls d σ H' :=
  call_core (k := fun p fr => pushP p fr st) R rx hn (fun p fr v H' s R' hv hf P => by
    cases fr with
    | false => cases p <;> exact P.elim
    | true =>
      obtain ⟨t, ys, a, us, rfl, rfl, h0, ha, r⟩ := hf rfl
      simp only [pushP] at P
      obtain ⟨m', s', R2, e⟩ := R.push (o := .lst (ys.map (AV.v · false))) (u := .lst us) h0 s ha fun m' s' e => by
        refine .lst (AVls.zero ?_)
        have : Vls F.c (Lw F m' (st.length + 1)) H' ys us := Vls.ground (fun t b l _ => ⟨l.1.1, l.1.2.1, fun i hi z => by
          by_cases q : i < st.length
          · exact l.1.2.2 i q ((s'.same i q).symm.trans z)
          · have : i = st.length := by omega
            subst this
            exact l.2 (z.symm.trans e)⟩) r
        exact Vls.avls this
      have := P m' (.ref (m' st.length)) H' s' R2 (.ref (by simp))
      rw [e] at this; exact this) P
/-- the whole state goes to the def -/
theorem callI_ok {den : IDen} (R : Rel F m st S σ H) (rx : AVls0 F m st.length H xs vs) (hn : vs.length = n) (P : PostE rV W F m st.length H S σ (den xs st) Q) : spI F.c n den vs H Q fun cls d H' => W cls d σ H' := by
  refine ⟨hn, { F with H0 := H, O0 := fun a => ∃ i, i < st.length ∧ m i = a, hA := fun p hp => F.hA p (R.h0 hp) }, m, st, xs, rfl, rfl, rfl, ?_, ?_, ?_⟩
  · refine ⟨R.inj, fun i hi => .inl ⟨i, hi, rfl⟩, fun b o h _ => h, fun b o h _ => h, fun b h => h, fun b h => R.zd b h, fun i o e => ?_, rfl, fun i x e => by simp at e⟩
    obtain ⟨u, h1, h2⟩ := R.sto i o e
    exact ⟨u, h1, AObj.ground (F := F) (F' := { F with H0 := H, O0 := fun a => ∃ i, i < st.length ∧ m i = a, hA := fun p hp => F.hA p (R.h0 hp) }) rfl (fun t a l _ => l) h2⟩
  · exact Paired.mapP rx fun a b => AVal0.ground (F := F) (F' := { F with H0 := H, O0 := fun a => ∃ i, i < st.length ∧ m i = a, hA := fun p hp => F.hA p (R.h0 hp) }) rfl (fun t a l _ => l)
  · have back : ∀ {m' : Nat → Addr} {st' : Store} {H' : Hp}, Step m st.length H m' st'.length H' → Rel { F with H0 := H, O0 := fun a => ∃ i, i < st.length ∧ m i = a, hA := fun p hp => F.hA p (R.h0 hp) } m' st' [] [] H' → Rel F m' st' S σ H' := fun {m' st' H'} s R' => by
      refine ⟨R'.inj, fun i hi => ?_, fun b o h1 h2 => ?_, fun b o h1 h2 => s.imm b o (R.imm b o h1 h2) h2, fun b h => s.dom b (R.dom b h), fun b h => R'.zd b h, fun i o e => ?_, R.len, fun i x e => ?_⟩
      · by_cases q : i < st.length
        · rw [s.same i q]; exact R.own i q
        · exact .inr (R.h0 (s.new i (by omega) hi))
      · refine s.keep b o (R.keep b o h1 h2) fun i hi z => ?_
        rcases R.own i hi with q | q
        · exact h2 (z ▸ q)
        · rw [z, h1] at q; cases q
      · obtain ⟨u, h1, h2⟩ := R'.sto i o e
        exact ⟨u, h1, AObj.ground (F := { F with H0 := H, O0 := fun a => ∃ i, i < st.length ∧ m i = a, hA := fun p hp => F.hA p (R.h0 hp) }) (F' := F) rfl (fun t a l _ => l) h2⟩
      · obtain ⟨v, h1, h2⟩ := R.slo i x e
        exact ⟨v, h1, AVal.step s h2⟩
    cases e : den xs st with
    | ok x st' =>
      rw [e] at P
      exact fun m' v H' s R' r => P m' v H' s (back s R') (AVal.ground (F := { F with H0 := H, O0 := fun a => ∃ i, i < st.length ∧ m i = a, hA := fun p hp => F.hA p (R.h0 hp) }) (F' := F) rfl (fun a z _ => R.h0 z) (fun t a l _ => l) r)
    | ex x st' =>
      rw [e] at P
      exact fun m' H' cls d s R' er => P m' H' cls d s (back s R') er
    | bad => rw [e] at P; exact P
end

/-! ### the context of a def of the module -/
structure Entry where
  cdv : Value
  A : Around
  outer : List Env
  s : Shared
  H : Hp
  E : XK
abbrev XOf (g : Gd) (names : List Str) (qual : Str) (st : Stmt) (f : Addr) (e : Entry) : Cx := cxOf (L2.CX g.P g.w) g.P g.w g.c.K g.mg g.base names qual (defScope st) f e.cdv e.A e.outer e.s e.H e.E
abbrev WOf (e : Entry) : WX := fun cls d _ H => e.E cls d H
theorem cgOf {g : Gd} {names : List Str} {qual : Str} {st : Stmt} {f : Addr} {e : Entry} {ps : List Str} (sc : FnScope names ps (defScope st)) : Cg (XOf g names qual st f e) g :=
  ⟨rfl, rfl, rfl, rfl, rfl, rfl, sc.nd, passes_of rfl, ⟨_, _, rfl, sc.gen, sc.co, rfl, rfl⟩⟩
theorem tkOf {g : Gd} {names : List Str} {qual : Str} {st : Stmt} {f : Addr} {e : Entry} : Takes (XOf g names qual st f e) (WOf e) := takes_of rfl rfl rfl rfl
/-- a def by its body -/
theorem fnP {g : Gd} {x qual : Str} {st : Stmt} {f : Addr} {fd : FuncData} {dvs : List V} {kws : List (Str × V)} {names ps : List Str} {N n k : Nat} {d : DS} (FF : FunD g.c.K x qual (defArgs st) (defBody st) (defScope st) dvs kws f fd) (sc : FnScope names ps (defScope st)) (hN : names.length = N) (hn : ps.length = n)
    (body : ∀ e : Entry, Room k (XOf g names qual st f e).A → PSsA (XOf g names qual st f e) g.c (WOf e) (defBody st) d) : FnOk g.P g.w g.c.K g.mg g.base (L2.CX g.P g.w) (k + 1) f fd ps (spP g.c n (runP N d)) :=
  FF.ok sc (fun vs H Q E h => h.1.trans hn.symm) fun cdv A outer s H vs Q E hr h => ⟨_, body ⟨cdv, A, outer, s, H, E⟩ hr, spP_body hN h⟩
theorem fnI {g : Gd} {x qual : Str} {st : Stmt} {f : Addr} {fd : FuncData} {dvs : List V} {kws : List (Str × V)} {names ps : List Str} {N n k : Nat} {d : DS} (FF : FunD g.c.K x qual (defArgs st) (defBody st) (defScope st) dvs kws f fd) (sc : FnScope names ps (defScope st)) (hN : names.length = N) (hn : ps.length = n)
    (body : ∀ e : Entry, Room k (XOf g names qual st f e).A → PSsA (XOf g names qual st f e) g.c (WOf e) (defBody st) d) : FnOk g.P g.w g.c.K g.mg g.base (L2.CX g.P g.w) (k + 1) f fd ps (spI g.c n (runI N d)) :=
  FF.ok sc (fun vs H Q E h => h.1.trans hn.symm) fun cdv A outer s H vs Q E hr h => ⟨_, body ⟨cdv, A, outer, s, H, E⟩ hr, spI_body hN h⟩

/-! ### f(e, ..) -/
section
variable {X : Cx} {g : Gd} {W : WX} {k n : Nat} {f : Addr} {x : Str} {ds : List Value} {dvs : List V} {dps : List PV} {e : Expr} {es : List Expr} {da : DA} {p pos : Pos}
theorem run_fnA {sp : Sp} {pins : List (Addr × Obj)} {σ : St} {H : Hp} {s : Shared} {Q : VK} {us : List Value} {vs : List V} (cg : Cg X g) (tk : Takes X W) (G : FnAt g k f n ds sp) (hr : Room k X.A) (hd : Vals dvs ds) (I : Inv X pins σ H s) (r : Vals vs us)
    (h : sp (vs ++ dvs) H Q fun cls d H' => W cls d σ H') : wpAny (model X.prog X.w) X.A (call (.ref f) us) (EP X pins σ Q) X.xe s := by
  obtain ⟨kp, fd, ps, hb, hn, FO⟩ := G
  have r2 : Vals (vs ++ dvs) (us ++ ds) := r.append hd
  have hl : (us ++ ds).length = ps.length := by rw [← r2.length]; exact FO.len _ _ _ _ h
  rw [← cg.P, ← cg.w, ← cg.K, ← cg.mg, ← cg.base] at FO
  rw [← cg.K] at hb
  refine wpAny_call (codeAny_mono (FO.run X.A X.stack s H ⟨us, []⟩ (us ++ ds) (vs ++ dvs) Q _ hr I.env0 (hb s us I.kIn hl) r2 h) fun r s' hq => ?_)
  cases r with
  | error e => exact passAt tk σ pins H s e s' I hq
  | ok fl =>
    cases fl with
    | ret u => exact I.after hq
    | next => exact False.elim hq
    | brk => exact False.elim hq
    | cont => exact False.elim hq
def tCallA (sp : Sp) (dvs : List V) (W : WX) (t : TA) : TE := fun σ H Q => t σ H fun vs H1 => sp (vs ++ dvs) H1 Q fun cls d H' => W cls d σ H'
theorem pe_callA {sp : Sp} {t : TA} (cg : Cg X g) (tk : Takes X W) (G : FnAt g k f n ds sp) (hr : Room k X.A) (hg : Gl X x) (hm : g.mg x = some (.ref f)) (hd : Vals dvs ds) (ha : PA X (e :: es) t) (hdb : (x == ("__debug__" : Str)) = false := by decide)
    (he : starEach (e :: es) X.env = (false, eval e X.env) :: starEach es X.env := by rfl) (hpl : (backTo pos (starEach es X.env)).any (·.1) = false := by rfl) : PE X (.Call (.Name x p) (e :: es) [] pos) (tCallA sp dvs W t) := by
  refine ⟨fun pins s σ H Q I h => ?_⟩
  refine wpAny_Call_Name_kw (ld_glob I hg (by rw [cg.mg]; exact hm) ?_ hdb)
  refine PySem.W.callWith_K (h₀ := X.base) I.ok.mod.kin (by rw [cg.K]; exact G.1) (thn (ha.run pos pins s σ H _ I h) fun us s1 ⟨vs, H1, I1, r, q⟩ => ⟨I1.kIn, ?_⟩) he hpl
  exact run_fnA cg tk G hr hd I1 r q
theorem pe_callA0 {sp : Sp} (cg : Cg X g) (tk : Takes X W) (G : FnAt g k f n ds sp) (hr : Room k X.A) (hg : Gl X x) (hm : g.mg x = some (.ref f)) (hd : Vals dvs ds) (hdb : (x == ("__debug__" : Str)) = false := by decide) :
    PE X (.Call (.Name x p) [] [] pos) (tCallA sp dvs W tNil) := by
  refine ⟨fun pins s σ H Q I h => ?_⟩
  refine wpAny_Call_Name_kw (ld_glob I hg (by rw [cg.mg]; exact hm) ?_ hdb)
  exact PySem.W.callWith_K0 I.kIn (by rw [cg.K]; exact G.1) (run_fnA (us := []) (vs := []) cg tk G hr hd I .nil h)
/-- the arguments, n of them, then what is made of them -/
def dArg (n : Nat) (f : List AV → Store → Res AV) (da : DA) : DE := fun S st => (da S st).then fun xs st1 => bif Nat.beq xs.length n then f xs st1 else .bad
abbrev dCall (n : Nat) (den : PDen) (da : DA) : DE := dArg n (callP den) da
abbrev dCallU (n : Nat) (den : PDen) (da : DA) : DE := dArg n (callU den) da
abbrev dCallI (n : Nat) (den : IDen) (da : DA) : DE := dArg n den da
/-- with values of defaults behind -/
def withD (dps : List PV) (f : List AV → Store → Res AV) : List AV → Store → Res AV := fun xs st => f (xs ++ dps.map (AV.v · false)) st
/-- what a call's denotation asks of the promise -/
def CallOk (g : Gd) (sp : Sp) (n : Nat) (f : List AV → Store → Res AV) : Prop := ∀ (W : WX) (F : Fix) (m : Nat → Addr) (st : Store) (S : Slots) (σ : St) (H : Hp) (xs : List AV) (vs : List V) (Q : VK), F.c = g.c → Rel F m st S σ H → AVls0 F m st.length H xs vs → vs.length = n →
  PostE rV W F m st.length H S σ (f xs st) Q → sp vs H Q fun cls d H' => W cls d σ H'
theorem ok_P {den : PDen} : CallOk g (spP g.c n den) n (callP den) := fun W F m st S σ H xs vs Q hc R rx hn P => hc ▸ callP_ok R rx hn P
theorem ok_U {den : PDen} : CallOk g (spP g.c n den) n (callU den) := fun W F m st S σ H xs vs Q hc R rx hn P => hc ▸ callU_ok R rx hn P
theorem ok_I {den : IDen} : CallOk g (spI g.c n den) n den := fun W F m st S σ H xs vs Q hc R rx hn P => hc ▸ callI_ok R rx hn P
theorem args_ok {sp : Sp} {dvs : List V} {dps : List PV} {j : Nat} {f : List AV → Store → Res AV} {Q : VK} {σ : St} {H : Hp} (hf : CallOk g sp (j + dps.length) f) (hd : ∀ L H, Vls g.c L H dps dvs) :
    tG rV g.c W (dArg j (withD dps f) da) σ H Q → tCallA sp dvs W (tG rA g.c W da) σ H Q := fun ⟨F, m, s, S, hc, R, P⟩ =>
  ⟨F, m, s, S, hc, R, (PostE.bind P).imp fun vs H1 ⟨m1, s1, xs, _, a1, R1, r1, P1⟩ => by
    have hl := Paired.length r1
    cases q : Nat.beq xs.length j with
    | false => simp only [q, cond_false] at P1; exact P1.elim
    | true =>
      simp only [q, cond_true] at P1
      have e := Nat.eq_of_beq_eq_true q
      have hd1 : Vls F.c (Lw F m1 s1.length) H1 dps dvs := hc ▸ hd _ _
      exact hf W F m1 s1 S σ H1 _ _ Q hc R1 (pairedAppend (AVls.zero r1) (AVls.zero (Vls.avls hd1))) (by rw [List.length_append, ← hl, e, ← Vls.length hd1]) P1⟩
theorem args_ok0 {sp : Sp} {f : List AV → Store → Res AV} {Q : VK} {σ : St} {H : Hp} (hf : CallOk g sp n f) : tG rV g.c W (dArg n f da) σ H Q → tCallA sp [] W (tG rA g.c W da) σ H Q := fun ⟨F, m, s, S, hc, R, P⟩ =>
  ⟨F, m, s, S, hc, R, (PostE.bind P).imp fun vs H1 ⟨m1, s1, xs, _, a1, R1, r1, P1⟩ => by
    have hl := Paired.length r1
    cases q : Nat.beq xs.length n with
    | false => simp only [q, cond_false] at P1; exact P1.elim
    | true =>
      simp only [q, cond_true] at P1
      have e := Nat.eq_of_beq_eq_true q
      show sp (vs ++ []) H1 Q _
      rw [List.append_nil]
      exact hf W F m1 s1 S σ H1 _ _ Q hc R1 (AVls.zero r1) (by rw [← hl, e]) P1⟩
/-- f(e, ..), every parameter given -/
theorem pea_call {sp : Sp} {f' : List AV → Store → Res AV} (hf : CallOk g sp n f') (cg : Cg X g) (tk : Takes X W) (hm : g.mg x = some (.ref f)) (G : FnAt g k f n [] sp) (hr : Room k X.A) (ha : PAA X g.c W (e :: es) da) (hg : Gl X x := by rfl) (hdb : (x == ("__debug__" : Str)) = false := by decide)
    (he : starEach (e :: es) X.env = (false, eval e X.env) :: starEach es X.env := by rfl) (hpl : (backTo pos (starEach es X.env)).any (·.1) = false := by rfl) : PEA X g.c W (.Call (.Name x p) (e :: es) [] pos) (dArg n f' da) :=
  (pe_callA cg tk G hr hg hm .nil ha hdb he hpl).imp fun _ _ _ => args_ok0 hf
theorem pea_call0 {sp : Sp} {f' : List AV → Store → Res AV} (hf : CallOk g sp 0 f') (cg : Cg X g) (tk : Takes X W) (hm : g.mg x = some (.ref f)) (G : FnAt g k f 0 [] sp) (hr : Room k X.A) (hg : Gl X x := by rfl) (hdb : (x == ("__debug__" : Str)) = false := by decide) :
    PEA X g.c W (.Call (.Name x p) [] [] pos) (dArg 0 f' dNil) :=
  (pe_callA0 cg tk G hr hg hm .nil hdb).imp fun σ H Q h => by
    have := args_ok0 (da := dNil) hf h
    obtain ⟨F, m, s, S, hc, R, P⟩ := this
    exact PostE.here P R .nil
/-- f(e, ..), the last parameters by their defaults -/
theorem pea_callD {sp : Sp} {j : Nat} {f' : List AV → Store → Res AV} (hf : CallOk g sp (j + dps.length) f') (hd : ∀ L H, Vls g.c L H dps dvs) (hv : Vals dvs ds) (cg : Cg X g) (tk : Takes X W) (hm : g.mg x = some (.ref f)) (G : FnAt g k f n ds sp) (hr : Room k X.A) (ha : PAA X g.c W (e :: es) da) (hg : Gl X x := by rfl) (hdb : (x == ("__debug__" : Str)) = false := by decide)
    (he : starEach (e :: es) X.env = (false, eval e X.env) :: starEach es X.env := by rfl) (hpl : (backTo pos (starEach es X.env)).any (·.1) = false := by rfl) : PEA X g.c W (.Call (.Name x p) (e :: es) [] pos) (dArg j (withD dps f') da) :=
  (pe_callA cg tk G hr hg hm hv ha hdb he hpl).imp fun _ _ _ => args_ok hf hd
end
/-! ### built-ins by their calls -/
section
variable {X : Cx} {c : Ct} {W : WX} {x : Str} {e : Expr} {es : List Expr} {da : DA} {p pos : Pos} {id T : String} {r : List V → Hp → VK → Prop}
def CRok (c : Ct) (r : List V → Hp → VK → Prop) (f : List AV → Store → Res AV) : Prop := ∀ (W : WX) (F : Fix) (m : Nat → Addr) (st : Store) (S : Slots) (σ : St) (H : Hp) (xs : List AV) (vs : List V) (Q : VK), F.c = c → Rel F m st S σ H → AVls F m st.length H xs vs →
  PostE rV W F m st.length H S σ (f xs st) Q → r vs H Q
def dB1 (f : List AV → Store → Res AV) (da : DA) : DE := fun S st => (da S st).then f
theorem pea_callB {f : List AV → Store → Res AV} (hc : CallR X (.builtin id) r) (hf : CRok c r f) (hm : X.mg x = none) (hv : bootBuiltins x = some (.builtin id)) (ha : PAA X c W (e :: es) da) (hg : Gl X x := by rfl) (hn : x ≠ "__name__" := by decide) (hdb : (x == ("__debug__" : Str)) = false := by decide)
    (he : starEach (e :: es) X.env = (false, eval e X.env) :: starEach es X.env := by rfl) (hpl : (backTo pos (starEach es X.env)).any (·.1) = false := by rfl) : PEA X c W (.Call (.Name x p) (e :: es) [] pos) (dB1 f da) :=
  (pe_callB hc hg hm hv ha hn hdb he hpl).imp fun σ H Q ⟨F, m, s, S, hc, R, P⟩ => ⟨F, m, s, S, hc, R, (PostE.bind P).imp fun vs H1 ⟨m1, s1, xs, _, a1, R1, r1, P1⟩ => hf W F m1 s1 S σ H1 xs vs Q hc R1 r1 P1⟩
theorem pea_callTy {f : List AV → Store → Res AV} (hc : CallR X (.type T) r) (hf : CRok c r f) (hm : X.mg x = none) (hv : bootBuiltins x = some (.type T)) (ha : PAA X c W (e :: es) da) (hg : Gl X x := by rfl) (hn : x ≠ "__name__" := by decide) (hdb : (x == ("__debug__" : Str)) = false := by decide)
    (he : starEach (e :: es) X.env = (false, eval e X.env) :: starEach es X.env := by rfl) (hpl : (backTo pos (starEach es X.env)).any (·.1) = false := by rfl) : PEA X c W (.Call (.Name x p) (e :: es) [] pos) (dB1 f da) :=
  (pe_callTy hc hg hm hv ha hn hdb he hpl).imp fun σ H Q ⟨F, m, s, S, hc, R, P⟩ => ⟨F, m, s, S, hc, R, (PostE.bind P).imp fun vs H1 ⟨m1, s1, xs, _, a1, R1, r1, P1⟩ => hf W F m1 s1 S σ H1 xs vs Q hc R1 r1 P1⟩
end
end A

/-! The A-layer, part 5: subscripts, comparisons of data, built-ins. -/
namespace A
open PySem PySem.Spec PyProof.Rows L2

/-! ### subscripts -/
def okV (st : Store) (o : Option AV) : Res AV := match o with
  | some x => .ok (strip x) st
  | none => .bad
def okP (st : Store) (o : Option PV) : Res AV := match o with
  | some p => .ok (.v p false) st
  | none => .bad
def fIx : AV → AV → Store → Res AV := fun x y st => match y with
  | .v (.int i) _ => match x with
    | .v (.tup xs) _ => okP st (atI xs i)
    | .v (.lst _ xs) _ => okP st (atI xs i)
    | .v (.scr ns) _ => okP st ((atI ns i).map .int)
    | .v (.str z) _ => bif Nat.ble z.length 1000000 then okP st ((atI z.cps.toList i).map fun q => .str ⟨#[q]⟩) else .bad
    | .ref n => match st[n]? with
      | some (.lst xs) => okV st (atI xs i)
      | _ => .bad
    | _ => .bad
  | _ => .bad
section
variable {F : Fix} {m : Nat → Addr} {N : Nat} {H : Hp} {S : Slots} {σ : St} {st : Store} {c : Ct} {L : Bool → Addr → Prop}
theorem Vls.atI {ps : List PV} {vs : List V} (h : Vls c L H ps vs) {i : Int} {p : PV} (e : atI ps i = some p) : ∃ v, L2.atI vs i = some v ∧ Val c L H p v := by
  unfold L2.atI at e ⊢
  rw [← Vls.length h]
  cases q : ixN ps.length i with
  | none => rw [q] at e; cases e
  | some j =>
    rw [q] at e
    exact Vls.get h e
theorem AVls0.atI {xs : List AV} {vs : List V} (h : AVls0 F m N H xs vs) {i : Int} {x : AV} (e : L2.atI xs i = some x) : ∃ v, L2.atI vs i = some v ∧ AVal0 F m N H x v := by
  unfold L2.atI at e ⊢
  rw [← Paired.length h]
  cases q : ixN xs.length i with
  | none => rw [q] at e; cases e
  | some j =>
    rw [q] at e
    have e : xs[j]? = some x := e
    show ∃ v, vs[j]? = some v ∧ _
    clear q
    revert e
    induction h generalizing j with
    | nil => intro e; simp at e
    | cons a _ ih =>
      intro e
      cases j with
      | zero => simp at e; subst e; exact ⟨_, rfl, a⟩
      | succ j =>
        have := ih j (by simpa using e) (by simpa using e)
        simpa using this
theorem okP_ok {W : WX} {o : Option PV} {Q : VK} {v : V} (P : PostE rV W F m st.length H S σ (okP st o) Q) (R : Rel F m st S σ H) (h : ∀ p, o = some p → Val F.c (Lw F m st.length) H p v) : Q v H := by
  cases o with
  | none => exact P.elim
  | some p => exact PostE.here P R (.v (h p rfl) fun e => nomatch e)
theorem okP_some {W : WX} {o : Option PV} {Q : VK} (P : PostE rV W F m st.length H S σ (okP st o) Q) : ∃ p, o = some p := by
  cases o with
  | none => exact P.elim
  | some p => exact ⟨p, rfl⟩
end
section
variable {X : Cx} {c : Ct} {W : WX} {a b : Expr} {da db : DE} {pos : Pos}
theorem r2_ix : R2ok c (rIx c.K) fIx := by
  intro W F m st S σ H x y v w Q hc R rx ry P
  unfold fIx at P
  split at P
  · rename_i i _
    have ey := isI ry
    split at P
    · obtain ⟨a, vs, rfl, h1, r1⟩ := tup_ok rx
      obtain ⟨p, e⟩ := okP_some P
      obtain ⟨u, e2, h2⟩ := Vls.atI r1 e
      rw [hc] at h1
      exact .inr (.inl ⟨a, vs, i, u, rfl, ey, h1, e2, okP_ok P R fun q z => by rw [e] at z; cases z; exact h2⟩)
    · cases rx with
      | v h _ =>
        cases h with
        | lst h l r1 =>
          obtain ⟨p, e⟩ := okP_some P
          obtain ⟨u, e2, h2⟩ := Vls.atI r1 e
          exact .inl ⟨_, _, i, u, rfl, ey, SqL.of h, e2, okP_ok P R fun q z => by rw [e] at z; cases z; exact h2⟩
    · obtain ⟨a, rfl, h1⟩ := scr_ok rx
      rename_i ns _
      obtain ⟨p, e⟩ := okP_some P
      rw [hc] at h1
      cases q : L2.atI ns i with
      | none => rw [q] at e; cases e
      | some j =>
        rw [q] at e P
        cases e
        refine .inl ⟨a, _, i, .int j, rfl, ey, h1, ?_, PostE.here P R (.v (.int j) fun e => nomatch e)⟩
        unfold L2.atI at q ⊢
        rw [List.length_map]
        cases q2 : ixN ns.length i with
        | none => rw [q2] at q; cases q
        | some k =>
          rw [q2] at q
          have q : ns[k]? = some j := q
          show (ns.map V.int)[k]? = some (.int j)
          rw [List.getElem?_map, q]; rfl
    · rename_i z _
      cases q : Nat.ble z.length 1000000 with
      | false => rw [q] at P; exact P.elim
      | true =>
        rw [q] at P
        simp only [cond_true] at P
        obtain ⟨p, e⟩ := okP_some P
        cases q2 : L2.atI z.cps.toList i with
        | none => rw [q2] at e; cases e
        | some k =>
          rw [q2] at e P
          cases e
          exact .inr (.inr ⟨z, i, k, isS rx, ey, le_line q, q2, PostE.here P R (.v (.str _) fun e => nomatch e)⟩)
    · rename_i n
      cases rx with
      | ref hn =>
        cases q : st[n]? with
        | none => rw [q] at P; exact P.elim
        | some o =>
          rw [q] at P
          obtain ⟨u, h1, h2⟩ := R.sto n o q
          cases h2 with
          | lst r1 =>
            simp only at P
            cases e : L2.atI ‹List AV› i with
            | none => rw [e] at P; exact P.elim
            | some x =>
              rw [e] at P
              obtain ⟨u, e2, h3⟩ := AVls0.atI r1 e
              exact .inl ⟨_, _, i, u, rfl, ey, SqL.of h1, e2, PostE.here P R h3.strip⟩
          | _ => exact P.elim
    · exact P.elim
  · exact P.elim
theorem pea_ix (hK : c.K = X.K := by rfl) (ha : PEA X c W a da) (hb : PEA X c W b db) (hs : PlainIx b := by exact fun _ _ => rfl) : PEA X c W (.Subscript a b pos) (dBin fIx da db) :=
  (pe_ix (r := rIx c.K) (by rw [hK]; exact ix_seq) ha hb hs).imp fun _ _ _ => bin_ok r2_ix
end

/-! ### data compared -/
mutual
def toD : PV → Option PyData
  | .non => some .none
  | .bl b => some (.bool b)
  | .int i => some (.int i)
  | .str x => some (.str x)
  | .tup xs => (toDs xs).map .tuple
  | .lst _ xs => (toDs xs).map .list
  | .scr ns => some (.list (ns.map .int))
  | _ => none
def toDs : List PV → Option (List PyData)
  | [] => some []
  | x :: xs => match toD x, toDs xs with
    | some d, some ds => some (d :: ds)
    | _, _ => none
end
section
variable {c : Ct} {L : Bool → Addr → Prop} {H : Hp}
mutual
theorem dp_of : ∀ {p : PV} {v : V} {d : PyData}, Val c L H p v → toD p = some d → Dp c.K H v d
  | _, _, _, .non, e => by cases e; exact .non
  | _, _, _, .bl b, e => by cases e; exact .bl b
  | _, _, _, .int b, e => by cases e; exact .int b
  | _, _, _, .str b, e => by cases e; exact .str b
  | _, _, _, .tup (xs := xs) h r, e => by
    unfold toD at e
    cases q : toDs xs with
    | none => rw [q] at e; cases e
    | some ds => rw [q] at e; cases e; exact .tup h (dps_of r q)
  | _, _, _, .lst (xs := xs) h l r, e => by
    unfold toD at e
    cases q : toDs xs with
    | none => rw [q] at e; cases e
    | some ds => rw [q] at e; cases e; exact .lst (SqL.of h) (dps_of r q)
  | _, _, _, .dct _ _ _ _, e => by cases e
  | _, _, _, .obj _ _ _ _, e => by cases e
  | _, _, _, .ty _, e => by cases e
  | _, _, _, .cls _, e => by cases e
  | _, _, _, .scr (ns := ns) h, e => by
    cases e
    refine .lst (scr_sq h) ?_
    clear h
    induction ns with
    | nil => exact .nil
    | cons n ns ih => exact .cons (.int n) ih
theorem dps_of : ∀ {p : List PV} {v : List V} {d : List PyData}, Vls c L H p v → toDs p = some d → DpAll c.K H v d
  | _, _, _, .nil, e => by cases e; exact .nil
  | _, _, _, .cons (x := x) (xs := xs) h r, e => by
    unfold toDs at e
    cases q : toD x with
    | none => rw [q] at e; cases e
    | some d =>
      cases q2 : toDs xs with
      | none => rw [q, q2] at e; cases e
      | some ds => rw [q, q2] at e; cases e; exact .cons (dp_of h q) (dps_of r q2)
end
end
/-- the data of a value or of a thing of the store -/
def dataOf (st : Store) (x : AV) : Option PyData := (view false st x).bind toD
def fEq (neg : Bool) : AV → AV → Store → Res AV := fun x y st => match dataOf st x, dataOf st y with
  | some d, some e => bif SeqAt.shaped d && SeqAt.shaped e then .ok (.v (.bl (bif neg then !PyData.eqv d e else PyData.eqv d e)) false) st else .bad
  | _, _ => .bad
section
variable {X : Cx} {c : Ct} {W : WX} {F : Fix} {m : Nat → Addr} {H : Hp} {S : Slots} {σ : St} {st : Store}
theorem dataOf_ok (R : Rel F m st S σ H) {x : AV} {v : V} {d : PyData} (h : AVal0 F m st.length H x v) (e : dataOf st x = some d) : Dp F.c.K H v d := by
  unfold dataOf at e
  cases q : view false st x with
  | none => rw [q] at e; cases e
  | some p =>
    rw [q] at e
    exact dp_of (viewN_ok R (L := fun _ _ => True) (fun _ _ _ _ => trivial) (fun _ _ => trivial) 12 x v p h q) e
theorem r2_eq : R2ok c (rEqD c.K) (fEq false) := by
  intro W F m st S σ H x y v w Q hc R rx ry P
  unfold fEq at P
  cases e1 : dataOf st x with
  | none => rw [e1] at P; exact P.elim
  | some d =>
    cases e2 : dataOf st y with
    | none => rw [e1, e2] at P; exact P.elim
    | some e =>
      rw [e1, e2] at P
      simp only at P
      cases q : SeqAt.shaped d && SeqAt.shaped e with
      | false => rw [q] at P; exact P.elim
      | true =>
        rw [q] at P
        rw [Bool.and_eq_true] at q
        exact ⟨d, e, hc ▸ dataOf_ok R rx.zero e1, hc ▸ dataOf_ok R ry.zero e2, q.1, q.2, PostE.here P R (.v (.bl _) fun e => nomatch e)⟩
theorem r2_ne : R2ok c (rNeD c.K) (fEq true) := by
  intro W F m st S σ H x y v w Q hc R rx ry P
  unfold fEq at P
  cases e1 : dataOf st x with
  | none => rw [e1] at P; exact P.elim
  | some d =>
    cases e2 : dataOf st y with
    | none => rw [e1, e2] at P; exact P.elim
    | some e =>
      rw [e1, e2] at P
      simp only at P
      cases q : SeqAt.shaped d && SeqAt.shaped e with
      | false => rw [q] at P; exact P.elim
      | true =>
        rw [q] at P
        rw [Bool.and_eq_true] at q
        exact ⟨d, e, hc ▸ dataOf_ok R rx.zero e1, hc ▸ dataOf_ok R ry.zero e2, q.1, q.2, PostE.here P R (.v (.bl _) fun e => nomatch e)⟩
/-- x in a list or tuple of flat things; in a list of data of any depth -/
def fIn (neg : Bool) : AV → AV → Store → Res AV := fun x y st => match dataOf st x, dataOf st y with
  | some d, some (.list ds) => bif SeqAt.shaped d && SeqAt.shaped (.list ds) then .ok (.v (.bl (bif neg then !ds.any (fun z => PyData.eqv z d) else ds.any fun z => PyData.eqv z d)) false) st else .bad
  | _, _ => .bad
theorem r2_in : R2ok c (rInD c.K) (fIn false) := by
  intro W F m st S σ H x y v w Q hc R rx ry P
  unfold fIn at P
  cases e1 : dataOf st x with
  | none => rw [e1] at P; exact P.elim
  | some d =>
    cases e2 : dataOf st y with
    | none => rw [e1, e2] at P; exact P.elim
    | some e =>
      cases e with
      | list ds =>
        rw [e1, e2] at P
        simp only at P
        cases q : SeqAt.shaped d && SeqAt.shaped (.list ds) with
        | false => rw [q] at P; exact P.elim
        | true =>
          rw [q] at P
          rw [Bool.and_eq_true] at q
          exact ⟨d, ds, hc ▸ dataOf_ok R rx.zero e1, hc ▸ dataOf_ok R ry.zero e2, q.1, q.2, PostE.here P R (.v (.bl _) fun e => nomatch e)⟩
      | _ => rw [e1, e2] at P; exact P.elim
theorem r2_notin : R2ok c (rNotInD c.K) (fIn true) := by
  intro W F m st S σ H x y v w Q hc R rx ry P
  unfold fIn at P
  cases e1 : dataOf st x with
  | none => rw [e1] at P; exact P.elim
  | some d =>
    cases e2 : dataOf st y with
    | none => rw [e1, e2] at P; exact P.elim
    | some e =>
      cases e with
      | list ds =>
        rw [e1, e2] at P
        simp only at P
        cases q : SeqAt.shaped d && SeqAt.shaped (.list ds) with
        | false => rw [q] at P; exact P.elim
        | true =>
          rw [q] at P
          rw [Bool.and_eq_true] at q
          exact ⟨d, ds, hc ▸ dataOf_ok R rx.zero e1, hc ▸ dataOf_ok R ry.zero e2, q.1, q.2, PostE.here P R (.v (.bl _) fun e => nomatch e)⟩
      | _ => rw [e1, e2] at P; exact P.elim
/-- is None -/
def isNon : AV → Bool
  | .v .non _ => true
  | _ => false
theorem isNon_ok {x : AV} {v : V} {N : Nat} (h : AVal F m N H x v) : decide (v = .non) = isNon x := by
  cases h with
  | v h _ => cases h <;> simp [isNon]
  | ref h => simp [isNon]
def fIsN (neg : Bool) : AV → AV → Store → Res AV := fun x y st => match y with
  | .v .non _ => .ok (.v (.bl (bif neg then !isNon x else isNon x)) false) st
  | _ => .bad
theorem r2_isN : R2ok c (fun x y H Q => y = .non ∧ Q (.bl (decide (x = .non))) H) (fIsN false) := by
  intro W F m st S σ H x y v w Q hc R rx ry P
  unfold fIsN at P
  split at P
  · exact ⟨isN ry, by rw [isNon_ok rx]; exact PostE.here P R (.v (.bl _) fun e => nomatch e)⟩
  · exact P.elim
theorem r2_notN : R2ok c (fun x y H Q => y = .non ∧ Q (.bl (!decide (x = .non))) H) (fIsN true) := by
  intro W F m st S σ H x y v w Q hc R rx ry P
  unfold fIsN at P
  split at P
  · exact ⟨isN ry, by rw [isNon_ok rx]; exact PostE.here P R (.v (.bl _) fun e => nomatch e)⟩
  · exact P.elim
end
/-! ### a < b < c -/
section
variable {X : Cx} {c : Ct} {W : WX} {a b e : Expr} {da db de : DE} {pos : Pos} {r r' : R2} {f f' : AV → AV → Store → Res AV}
def dChain (f f' : AV → AV → Store → Res AV) (da db de : DE) : DE := fun S st => (da S st).then fun x st1 => (db S st1).then fun y st2 => (f x y st2).then fun z st3 => match z with
  | .v (.bl k) _ => bif k then (de S st3).then fun u st4 => f' y u st4 else .ok (.v (.bl false) false) st3
  | _ => .bad
theorem chain_ok (hf : R2ok c r f) (hf' : R2ok c r' f') {σ : St} {H : Hp} {Q : VK} : tG rV c W (dChain f f' da db de) σ H Q → tChain r r' (tG rV c W da) (tG rV c W db) (tG rV c W de) σ H Q := fun ⟨F, m, s, S, hc, R, P⟩ =>
  ⟨F, m, s, S, hc, R, (PostE.bind P).imp fun v H1 ⟨m1, s1, x, _, a1, R1, r1, P1⟩ =>
    ⟨F, m1, s1, S, hc, R1, (PostE.bind P1).imp fun w H2 ⟨m2, s2, y, _, a2, R2, r2, P2⟩ =>
      hf W F m2 s2 S σ H2 x y v w _ hc R2 (AVal.step a2 r1) r2 ((PostE.bind P2).imp fun z H3 ⟨m3, s3, zv, _, a3, R3, r3, P3⟩ => by
        cases zv with
        | v p fr =>
          cases p with
          | bl k =>
            refine ⟨k, isB r3, ?_⟩
            cases k with
            | true => exact ⟨F, m3, s3, S, hc, R3, (PostE.bind P3).imp fun u H4 ⟨m4, s4, uv, _, a4, R4, r4, P4⟩ => hf' W F m4 s4 S σ H4 y uv w u Q hc R4 (AVal.step a4 (AVal.step a3 r2)) r4 P4⟩
            | false => exact PostE.here P3 R3 (.v (.bl _) fun e => nomatch e)
          | _ => exact P3.elim
        | ref n => exact P3.elim)⟩⟩
theorem pea_chain {op op' : CmpOp} (ho : OpR X (compareOp op) r) (ho' : OpR X (compareOp op') r') (hf : R2ok c r f) (hf' : R2ok c r' f') (ha : PEA X c W a da) (hb : PEA X c W b db) (hc : PEA X c W e de)
    (hm : lastMarks [op, op'] [b, e] = false := by with_unfolding_all rfl) : PEA X c W (.Compare a [op, op'] [b, e] pos) (dChain f f' da db de) := (pe_chain ho ho' ha hb hc hm).imp fun _ _ _ => chain_ok hf hf'
theorem pta_chain {op op' : CmpOp} (ho : OpR X (compareOp op) r) (ho' : OpR X (compareOp op') r') (hf : R2ok c r f) (hf' : R2ok c r' f') (ha : PEA X c W a da) (hb : PEA X c W b db) (hc : PEA X c W e de)
    (hm : lastMarks [op, op'] [b, e] = false := by with_unfolding_all rfl) : PTA X c W (.Compare a [op, op'] [b, e] pos) (dB (dChain f f' da db de)) := (pt_chain ho ho' ha hb hc hm).imp fun σ H Q h => chain_ok hf hf' (dB_ok h)
end

/-! ### slices -/
section
variable {X : Cx} {c : Ct} {W : WX} {e : Expr} {de dl du : DE} {lo hi : Option Expr} {pos p2 : Pos}
abbrev DO := Slots → Store → Res (Option Int)
abbrev rO : VRel (Option Int) (Option Int) := fun _ _ _ _ a b => a = b
def dPart (de : DE) : DO := fun S st => (de S st).then fun x st1 => match x with
  | .v (.int i) _ => .ok (some i) st1
  | _ => .bad
def dNoPart : DO := fun _ st => .ok none st
abbrev POA (X : Cx) (c : Ct) (W : WX) (e : Option Expr) (d : DO) : Prop := PO X e (tG rO c W d)
theorem _root_.L2.PO.imp {X : Cx} {e : Option Expr} {t t' : TO} (h : PO X e t) (f : ∀ σ H Q, t' σ H Q → t σ H Q) : PO X e t' := ⟨fun pins s σ H Q I hw => h.run pins s σ H Q I (f σ H Q hw)⟩
theorem poa_none : POA X c W none dNoPart := po_none.imp fun σ H Q ⟨F, m, s, S, hc, R, P⟩ => PostE.here P R rfl
theorem poa_some (h : PEA X c W e de) : POA X c W (some e) (dPart de) := (po_some h).imp fun σ H Q ⟨F, m, s, S, hc, R, P⟩ =>
  ⟨F, m, s, S, hc, R, (PostE.bind P).imp fun v H1 ⟨m1, s1, x, _, a1, R1, r1, P1⟩ => by
    cases x with
    | v p fr =>
      cases p with
      | int i => exact ⟨i, isI r1, PostE.here P1 R1 rfl⟩
      | _ => exact P1.elim
    | ref n => exact P1.elim⟩
/-- the items from lo to hi -/
def cut {α : Type} (xs : List α) (lo hi : Option Int) : List α := (xs.drop (HT.sIx xs.length 0 lo)).take (HT.sIx xs.length xs.length hi - HT.sIx xs.length 0 lo)
def isWhole (n : Nat) (lo hi : Option Int) : Bool := Nat.beq (HT.sIx n 0 lo) 0 && Nat.beq (HT.sIx n n hi) n
def fSlice (r : Bool) : AV → Option Int → Option Int → Store → Res AV := fun x lo hi st => match x with
  | .v (.tup xs) _ => bif isWhole xs.length lo hi then .bad else .ok (.v (.tup (cut xs lo hi)) false) st
  | .v (.scr ns) _ => newL r ((cut ns lo hi).map fun i => .v (.int i) false) st
  | .v (.str z) _ => bif Nat.ble z.length 1000000 then .ok (.v (.str (cutS z lo hi)) false) st else .bad
  | _ => match listOf st x with
    | some xs => newL r (cut xs lo hi) st
    | none => .bad
abbrev rSlA (K : PySem.W.Frag) : V → Option Int → Option Int → Hp → VK → Prop := fun x lo hi H Q => rSlT K x lo hi H Q ∨ (fun x lo hi H Q => rSlL K x lo hi H Q ∨ rSlS x lo hi H Q) x lo hi H Q
theorem Vls.cut {c : Ct} {L : Bool → Addr → Prop} {H : Hp} {ps : List PV} {vs : List V} (h : Vls c L H ps vs) (lo hi : Option Int) : Vls c L H (A.cut ps lo hi) (cutV vs lo hi) := by
  unfold A.cut cutV
  rw [← Vls.length h]
  exact Vls.take _ (Vls.drop _ h)
theorem pairedDrop {α β : Type} {P : α → β → Prop} : ∀ {xs : List α} {ys : List β} (n : Nat), Paired P xs ys → Paired P (xs.drop n) (ys.drop n)
  | _, _, 0, h => h
  | _, _, _ + 1, .nil => .nil
  | _, _, n + 1, .cons _ r => pairedDrop n r
theorem pairedTake {α β : Type} {P : α → β → Prop} : ∀ {xs : List α} {ys : List β} (n : Nat), Paired P xs ys → Paired P (xs.take n) (ys.take n)
  | _, _, 0, h => .nil
  | _, _, _ + 1, .nil => .nil
  | _, _, n + 1, .cons h r => .cons h (pairedTake n r)
theorem AVls0.cut {F : Fix} {m : Nat → Addr} {N : Nat} {H : Hp} {xs : List AV} {vs : List V} (h : AVls0 F m N H xs vs) (lo hi : Option Int) : AVls0 F m N H (A.cut xs lo hi) (cutV vs lo hi) := by
  unfold A.cut cutV
  rw [← Paired.length h]
  exact pairedTake _ (pairedDrop _ h)
theorem slice_ok {r : Bool} {F : Fix} {m : Nat → Addr} {H : Hp} {S : Slots} {σ : St} {st : Store} {Q : VK} {x : AV} {v : V} {lo hi : Option Int} (hc : F.c = c) (R : Rel F m st S σ H) (rx : AVal F m st.length H x v)
    (P : PostE rV W F m st.length H S σ (fSlice r x lo hi st) Q) : rSlA c.K v lo hi H Q := by
  have lists : (PostE rV W F m st.length H S σ (match listOf st x with
    | some xs => newL r (cut xs lo hi) st
    | none => .bad) Q) → rSlA c.K v lo hi H Q := by
    intro P
    cases e : listOf st x with
    | none => rw [e] at P; exact P.elim
    | some xs =>
      rw [e] at P
      obtain ⟨a, vs, rfl, h1, r1⟩ := listOf_ok R rx e
      exact .inr (.inl ⟨a, vs, rfl, SqL.of h1, fun p hp => newL_ok R hp (AVls0.cut r1 lo hi) P⟩)
  unfold fSlice at P
  split at P
  · obtain ⟨a, vs, rfl, h1, r1⟩ := tup_ok rx
    rename_i xs _
    cases q : isWhole xs.length lo hi with
    | true => rw [q] at P; exact P.elim
    | false =>
      rw [q] at P
      rw [hc] at h1
      refine .inl ⟨a, vs, rfl, h1, fun z => ?_, fun p hp => newT_ok R hp (Vls.cut r1 lo hi) P⟩
      rw [← Vls.length r1] at z
      unfold isWhole at q
      rw [z.1, z.2] at q
      simp [Nat.beq_refl] at q
  · obtain ⟨a, rfl, h1⟩ := scr_ok rx
    rename_i ns _
    rw [hc] at h1
    refine .inr (.inl ⟨a, _, rfl, h1, fun p hp => ?_⟩)
    have e : cutV (ns.map V.int) lo hi = (cut ns lo hi).map V.int := by
      unfold cutV cut
      rw [List.length_map, ← List.map_drop, ← List.map_take]
    rw [e]
    refine newL_ok R hp ?_ P
    generalize cut ns lo hi = zs
    induction zs with
    | nil => exact .nil
    | cons z zs ih => exact .cons (.v (.int z)) ih
  · rename_i z _
    cases q : Nat.ble z.length 1000000 with
    | false => rw [q] at P; exact P.elim
    | true =>
      rw [q] at P
      exact .inr (.inr ⟨z, isS rx, le_line q, PostE.here P R (.v (.str _) fun e => nomatch e)⟩)
  · exact lists P
def dSlice (r : Bool) (de : DE) (dl du : DO) : DE := fun S st => (de S st).then fun x st1 => (dl S st1).then fun l st2 => (du S st2).then fun u st3 => fSlice r x l u st3
theorem pea_slice (r : Bool) {dl du : DO} (hK : c.K = X.K := by rfl) (he : PEA X c W e de) (hl : POA X c W lo dl) (hu : POA X c W hi du) : PEA X c W (.Subscript e (.Slice lo hi none p2) pos) (dSlice r de dl du) :=
  (pe_slice (r := rSlA c.K) (by rw [hK]; exact SlR.or sl_tup (SlR.or sl_list sl_str)) he hl hu).imp fun σ H Q ⟨F, m, s, S, hc, R, P⟩ =>
    ⟨F, m, s, S, hc, R, (PostE.bind P).imp fun v H1 ⟨m1, s1, x, _, a1, R1, r1, P1⟩ =>
      ⟨F, m1, s1, S, hc, R1, (PostE.bind P1).imp fun l H2 ⟨m2, s2, l', _, a2, R2, r2, P2⟩ =>
        ⟨F, m2, s2, S, hc, R2, (PostE.bind P2).imp fun u H3 ⟨m3, s3, u', _, a3, R3, r3, P3⟩ => by
          have r2 : l' = l := r2
          have r3 : u' = u := r3
          subst r2 r3
          exact slice_ok hc R3 (AVal.step a3 (AVal.step a2 r1)) P3⟩⟩⟩
end

/-! ### built-ins -/
section
variable {X : Cx} {c : Ct} {W : WX}
def fAbs : List AV → Store → Res AV := fun xs st => match xs with
  | [.v (.int i) _] => .ok (.v (.int (if i < 0 then -i else i)) false) st
  | _ => .bad
abbrev rAbs : List V → Hp → VK → Prop := fun xs H Q => ∃ i, xs = [.int i] ∧ Q (.int (if i < 0 then -i else i)) H
theorem cr_abs : CRok c rAbs fAbs := by
  intro W F m st S σ H xs vs Q hc R rx P
  unfold fAbs at P
  split at P
  · cases rx with
    | cons a r =>
      cases r
      exact ⟨_, by rw [isI a], PostE.here P R (.v (.int _) fun e => nomatch e)⟩
  · exact P.elim
def lenOf (st : Store) : AV → Option Nat
  | .v (.tup xs) _ => some xs.length
  | .v (.lst _ xs) _ => some xs.length
  | .v (.scr ns) _ => some ns.length
  | .v (.str z) _ => bif Nat.ble z.length 1000000 then some z.length else none
  | .ref n => match st[n]? with
    | some (.lst xs) => some xs.length
    | some (.dK kvs) => some kvs.length
    | _ => none
  | _ => none
def fLen : List AV → Store → Res AV := fun xs st => match xs with
  | [x] => match lenOf st x with
    | some n => .ok (.v (.int n) false) st
    | none => .bad
  | _ => .bad
abbrev rLenA (K : PySem.W.Frag) : List V → Hp → VK → Prop := fun xs H Q => (∃ p ys, xs = [.ref p] ∧ (SqL K H p ys ∨ SqT K H p ys) ∧ Q (.int ys.length) H) ∨
  (fun xs H Q => (∃ z, xs = [V.str z] ∧ z.length ≤ sizeLine ∧ Q (.int z.length) H) ∨ (∃ a kvs, xs = [.ref a] ∧ H a = some (.dK kvs) ∧ Q (.int kvs.length) H)) xs H Q
theorem cr_lenA : CRok c (rLenA c.K) fLen := by
  intro W F m st S σ H xs vs Q hc R rx P
  unfold fLen at P
  split at P
  · cases rx with
    | cons a r =>
      cases r
      rename_i x v
      cases e : lenOf st x with
      | none => rw [e] at P; exact P.elim
      | some n =>
        rw [e] at P
        have q : Q (.int n) H := PostE.here P R (.v (.int _) fun e => nomatch e)
        clear P
        unfold lenOf at e
        split at e
        · obtain ⟨b, vs, rfl, h1, r1⟩ := tup_ok a
          cases e
          rw [hc] at h1
          exact .inl ⟨b, vs, rfl, .inr h1, by rw [← Vls.length r1]; exact q⟩
        · cases a with
          | v h _ =>
            cases h with
            | lst h l r1 => cases e; exact .inl ⟨_, _, rfl, .inl (SqL.of h), by rw [← Vls.length r1]; exact q⟩
        · obtain ⟨b, rfl, h1⟩ := scr_ok a
          cases e
          rw [hc] at h1
          exact .inl ⟨b, _, rfl, .inl h1, by rw [List.length_map]; exact q⟩
        · rename_i z _
          cases k : Nat.ble z.length 1000000 with
          | false => rw [k] at e; cases e
          | true =>
            rw [k] at e
            cases e
            exact .inr (.inl ⟨z, by rw [isS a], le_line k, q⟩)
        · rename_i k
          cases a with
          | ref hn =>
            cases e2 : st[k]? with
            | none => rw [e2] at e; cases e
            | some o =>
              rw [e2] at e
              obtain ⟨u, h1, h2⟩ := R.sto k o e2
              cases h2 with
              | lst r1 => cases e; exact .inl ⟨_, _, rfl, .inl (SqL.of h1), by rw [← Paired.length r1]; exact q⟩
              | dK r1 => cases e; exact .inr (.inr ⟨_, _, rfl, h1, by rw [← Paired.length r1]; exact q⟩)
              | _ => cases e
        · cases e
  · exact P.elim
theorem call_lenA : CallR X (.builtin "len") (rLenA X.K) := CallR.or call_len_seq (CallR.or call_len_str fun pins s σ H xs us Q I r ⟨a, kvs, e, h, q⟩ => by
  subst e
  have e2 : us = [Value.ref a] := by
    cases r with
    | cons r rr => cases rr; cases r; rfl
  subst e2
  exact d_len I (.inl h) fun t s' I' => ⟨.int kvs.length, H, I', ⟨t, rfl⟩, q⟩)
def fInt : List AV → Store → Res AV := fun xs st => match xs with
  | [.v (.int i) _] => .ok (.v (.int i) false) st
  | [.v (.bl k) _] => .ok (.v (.int (if k then 1 else 0)) false) st
  | _ => .bad
abbrev rInt1 : List V → Hp → VK → Prop := fun xs H Q => (∃ i, xs = [.int i] ∧ Q (.int i) H) ∨ ∃ k, xs = [.bl k] ∧ Q (.int (if k then 1 else 0)) H
theorem cr_int : CRok c rInt1 fInt := by
  intro W F m st S σ H xs vs Q hc R rx P
  unfold fInt at P
  split at P
  · cases rx with
    | cons a r =>
      cases r
      exact .inl ⟨_, by rw [isI a], PostE.here P R (.v (.int _) fun e => nomatch e)⟩
  · cases rx with
    | cons a r =>
      cases r
      exact .inr ⟨_, by rw [isB a], PostE.here P R (.v (.int _) fun e => nomatch e)⟩
  · exact P.elim
def fMax2 : List AV → Store → Res AV := fun xs st => match xs with
  | [.v (.int i) _, .v (.int j) _] => .ok (.v (.int (if j > i then j else i)) false) st
  | _ => .bad
def fMin2 : List AV → Store → Res AV := fun xs st => match xs with
  | [.v (.int i) _, .v (.int j) _] => .ok (.v (.int (if j < i then j else i)) false) st
  | _ => .bad
theorem cr_max2A : CRok c (fun xs H Q => ∃ i j, xs = [.int i, .int j] ∧ Q (.int (if j > i then j else i)) H) fMax2 := by
  intro W F m st S σ H xs vs Q hc R rx P
  unfold fMax2 at P
  split at P
  · cases rx with
    | cons a r =>
      cases r with
      | cons b r =>
        cases r
        exact ⟨_, _, by rw [isI a, isI b], PostE.here P R (.v (.int _) fun e => nomatch e)⟩
  · exact P.elim
theorem cr_min2A : CRok c (fun xs H Q => ∃ i j, xs = [.int i, .int j] ∧ Q (.int (if j < i then j else i)) H) fMin2 := by
  intro W F m st S σ H xs vs Q hc R rx P
  unfold fMin2 at P
  split at P
  · cases rx with
    | cons a r =>
      cases r with
      | cons b r =>
        cases r
        exact ⟨_, _, by rw [isI a, isI b], PostE.here P R (.v (.int _) fun e => nomatch e)⟩
  · exact P.elim
/-- the ints of a list -/
def toInts : List AV → Option (List Int)
  | [] => some []
  | .v (.int i) _ :: r => (toInts r).map (i :: ·)
  | _ :: _ => none
theorem toInts_ok {F : Fix} {m : Nat → Addr} {N : Nat} {H : Hp} : ∀ {xs : List AV} {vs : List V} {ns : List Int}, AVls0 F m N H xs vs → toInts xs = some ns → vs = ns.map V.int
  | _, _, ns, .nil, e => by cases e; rfl
  | x :: xs, v :: vs, ns, .cons a r, e => by
    cases x with
    | ref n => cases e
    | v p fr =>
      cases p with
      | int i =>
        have e : (toInts xs).map (i :: ·) = some ns := e
        cases q : toInts xs with
        | none => rw [q] at e; cases e
        | some ms =>
          rw [q] at e
          cases e
          rw [toInts_ok r q]
          cases a with
          | v h => rw [Val.int_inv h]; rfl
      | _ => cases e
/-- the ints of a list argument -/
def intsOf (st : Store) (x : AV) : Option (List Int) := match x with
  | .v (.scr ns) _ => some ns
  | _ => (listOf st x).bind toInts
theorem intsOf_ok {F : Fix} {m : Nat → Addr} {H : Hp} {S : Slots} {σ : St} {st : Store} (R : Rel F m st S σ H) {x : AV} {v : V} {ns : List Int} (h : AVal F m st.length H x v) (e : intsOf st x = some ns) : ∃ a, v = .ref a ∧ SqL F.c.K H a (ns.map V.int) := by
  have go : (listOf st x).bind toInts = some ns → ∃ a, v = .ref a ∧ SqL F.c.K H a (ns.map V.int) := fun e => by
    cases q : listOf st x with
    | none => rw [q] at e; cases e
    | some xs =>
      rw [q] at e
      obtain ⟨a, vs, rfl, h1, r1⟩ := listOf_ok R h q
      have := toInts_ok r1 e
      subst this
      exact ⟨a, rfl, SqL.of h1⟩
  unfold intsOf at e
  split at e
  · cases e
    exact scr_ok h
  · exact go e
def fSum : List AV → Store → Res AV := fun xs st => match xs with
  | [x] => match intsOf st x with
    | some ns => .ok (.v (.int ns.sum) false) st
    | none => .bad
  | _ => .bad
theorem cr_sumA : CRok c (rSum c.K) fSum := by
  intro W F m st S σ H xs vs Q hc R rx P
  unfold fSum at P
  split at P
  · cases rx with
    | cons a r =>
      cases r
      rename_i x v
      cases e : intsOf st x with
      | none => rw [e] at P; exact P.elim
      | some ns =>
        rw [e] at P
        obtain ⟨p, rfl, h⟩ := intsOf_ok R a e
        rw [hc] at h
        exact ⟨p, ns, rfl, h, PostE.here P R (.v (.int _) fun e => nomatch e)⟩
  · exact P.elim
def maxL : List Int → Int
  | [] => 0
  | x :: xs => xs.foldl max x
def minL : List Int → Int
  | [] => 0
  | x :: xs => xs.foldl min x
theorem foldl_max_ge (xs : List Int) : ∀ x : Int, x ≤ xs.foldl max x ∧ (∀ y ∈ xs, y ≤ xs.foldl max x) ∧ (xs.foldl max x = x ∨ xs.foldl max x ∈ xs) := by
  induction xs with
  | nil => intro x; exact ⟨Int.le_refl _, fun y h => by simp at h, .inl rfl⟩
  | cons z zs ih =>
    intro x
    obtain ⟨h1, h2, h3⟩ := ih (max x z)
    refine ⟨by simp only [List.foldl_cons]; omega, fun y hy => ?_, ?_⟩
    · rcases List.mem_cons.mp hy with rfl | hy
      · simp only [List.foldl_cons]; omega
      · exact h2 y hy
    · simp only [List.foldl_cons]
      rcases h3 with h3 | h3
      · rw [h3]
        by_cases q : x ≤ z
        · exact .inr (by rw [Int.max_eq_right q]; exact List.mem_cons_self)
        · exact .inl (Int.max_eq_left (by omega))
      · exact .inr (List.mem_cons_of_mem _ h3)
theorem foldl_min_le (xs : List Int) : ∀ x : Int, xs.foldl min x ≤ x ∧ (∀ y ∈ xs, xs.foldl min x ≤ y) ∧ (xs.foldl min x = x ∨ xs.foldl min x ∈ xs) := by
  induction xs with
  | nil => intro x; exact ⟨Int.le_refl _, fun y h => by simp at h, .inl rfl⟩
  | cons z zs ih =>
    intro x
    obtain ⟨h1, h2, h3⟩ := ih (min x z)
    refine ⟨by simp only [List.foldl_cons]; omega, fun y hy => ?_, ?_⟩
    · rcases List.mem_cons.mp hy with rfl | hy
      · simp only [List.foldl_cons]; omega
      · exact h2 y hy
    · simp only [List.foldl_cons]
      rcases h3 with h3 | h3
      · rw [h3]
        by_cases q : z ≤ x
        · exact .inr (by rw [Int.min_eq_right q]; exact List.mem_cons_self)
        · exact .inl (Int.min_eq_left (by omega))
      · exact .inr (List.mem_cons_of_mem _ h3)
theorem maxL_uniq {ns : List Int} {m : Int} (h : m ∈ ns) (hm : ∀ y ∈ ns, y ≤ m) : m = maxL ns := by
  cases ns with
  | nil => simp at h
  | cons x xs =>
    obtain ⟨h1, h2, h3⟩ := foldl_max_ge xs x
    have a : m ≤ maxL (x :: xs) := by
      rcases List.mem_cons.mp h with rfl | h
      · exact h1
      · exact h2 m h
    have b : maxL (x :: xs) ≤ m := by
      rcases h3 with h3 | h3
      · have := hm x List.mem_cons_self
        have e : maxL (x :: xs) = x := h3
        omega
      · exact hm _ (List.mem_cons_of_mem _ h3)
    omega
theorem minL_uniq {ns : List Int} {m : Int} (h : m ∈ ns) (hm : ∀ y ∈ ns, m ≤ y) : m = minL ns := by
  cases ns with
  | nil => simp at h
  | cons x xs =>
    obtain ⟨h1, h2, h3⟩ := foldl_min_le xs x
    have a : minL (x :: xs) ≤ m := by
      rcases List.mem_cons.mp h with rfl | h
      · exact h1
      · exact h2 m h
    have b : m ≤ minL (x :: xs) := by
      rcases h3 with h3 | h3
      · have := hm x List.mem_cons_self
        have e : minL (x :: xs) = x := h3
        omega
      · exact hm _ (List.mem_cons_of_mem _ h3)
    omega
def fMaxL : List AV → Store → Res AV := fun xs st => match xs with
  | [x] => match intsOf st x with
    | some (n :: ns) => .ok (.v (.int (maxL (n :: ns))) false) st
    | _ => .bad
  | _ => .bad
def fMinL : List AV → Store → Res AV := fun xs st => match xs with
  | [x] => match intsOf st x with
    | some (n :: ns) => .ok (.v (.int (minL (n :: ns))) false) st
    | _ => .bad
  | _ => .bad
theorem cr_maxA : CRok c (rMax c.K) fMaxL := by
  intro W F m st S σ H xs vs Q hc R rx P
  unfold fMaxL at P
  split at P
  · cases rx with
    | cons a r =>
      cases r
      rename_i x v
      split at P
      · rename_i n ns e
        obtain ⟨p, rfl, h⟩ := intsOf_ok R a e
        rw [hc] at h
        exact ⟨p, n :: ns, rfl, h, Nat.zero_lt_succ _, fun k hk hm => by rw [maxL_uniq hk hm]; exact PostE.here P R (.v (.int _) fun e => nomatch e)⟩
      · exact P.elim
  · exact P.elim
theorem cr_minA : CRok c (rMin c.K) fMinL := by
  intro W F m st S σ H xs vs Q hc R rx P
  unfold fMinL at P
  split at P
  · cases rx with
    | cons a r =>
      cases r
      rename_i x v
      split at P
      · rename_i n ns e
        obtain ⟨p, rfl, h⟩ := intsOf_ok R a e
        rw [hc] at h
        exact ⟨p, n :: ns, rfl, h, Nat.zero_lt_succ _, fun k hk hm => by rw [minL_uniq hk hm]; exact PostE.here P R (.v (.int _) fun e => nomatch e)⟩
      · exact P.elim
  · exact P.elim
/-- list(x), tuple(x) -/
def fList (r : Bool) : List AV → Store → Res AV := fun xs st => match xs with
  | [.v (.tup ps) _] => newL r (ps.map (AV.v · false)) st
  | [.v (.scr ns) _] => newL r (ns.map fun i => .v (.int i) false) st
  | [x] => match listOf st x with
    | some ys => newL r ys st
    | none => .bad
  | _ => .bad
theorem ints_avls {F : Fix} {m : Nat → Addr} {N : Nat} {H : Hp} : ∀ ns : List Int, AVls0 F m N H (ns.map fun i => .v (.int i) false) (ns.map V.int)
  | [] => .nil
  | n :: ns => .cons (.v (.int n)) (ints_avls ns)
theorem cr_listA (r : Bool) : CRok c (fun xs H Q => ∃ p ys, xs = [.ref p] ∧ (SqL c.K H p ys ∨ SqT c.K H p ys) ∧ ∀ l, H l = none → Q (.ref l) (upd H l (.lst ys))) (fList r) := by
  intro W F m st S σ H xs vs Q hc R rx P
  unfold fList at P
  split at P
  · cases rx with
    | cons a t =>
      cases t
      obtain ⟨p, vs, rfl, h1, r1⟩ := tup_ok a
      rw [hc] at h1
      exact ⟨p, vs, rfl, .inr h1, fun l hl => newL_ok R hl (AVls.zero (Vls.avls r1)) P⟩
  · cases rx with
    | cons a t =>
      cases t
      obtain ⟨p, rfl, h1⟩ := scr_ok a
      rw [hc] at h1
      exact ⟨p, _, rfl, .inl h1, fun l hl => newL_ok R hl (ints_avls _) P⟩
  · cases rx with
    | cons a t =>
      cases t
      rename_i x _ _ v
      cases e : listOf st x with
      | none => rw [e] at P; exact P.elim
      | some ys =>
        rw [e] at P
        obtain ⟨p, vs, rfl, h1, r1⟩ := listOf_ok R a e
        exact ⟨p, vs, rfl, .inl (SqL.of h1), fun l hl => newL_ok R hl r1 P⟩
  · exact P.elim
def fTuple : List AV → Store → Res AV := fun xs st => match xs with
  | [.v (.tup ps) fr] => .ok (.v (.tup ps) false) st
  | [x] => match (listOf st x).bind toPs with
    | some ps => .ok (.v (.tup ps) false) st
    | none => .bad
  | _ => .bad
theorem cr_tupleA : CRok c (fun xs H Q => ∃ p ys, xs = [.ref p] ∧ ((SqL c.K H p ys ∧ ∀ l, H l = none → Q (.ref l) (upd H l (.tup ys))) ∨ (SqT c.K H p ys ∧ Q (.ref p) H))) fTuple := by
  intro W F m st S σ H xs vs Q hc R rx P
  unfold fTuple at P
  split at P
  · cases rx with
    | cons a t =>
      cases t
      obtain ⟨p, vs, rfl, h1, r1⟩ := tup_ok a
      have q := PostE.here P R (.v (.tup h1 r1) fun e => nomatch e)
      rw [hc] at h1
      exact ⟨p, vs, rfl, .inr ⟨h1, q⟩⟩
  · cases rx with
    | cons a t =>
      cases t
      rename_i x _ v
      cases e : listOf st x with
      | none => rw [e] at P; exact P.elim
      | some ys =>
        rw [e] at P
        obtain ⟨p, vs, rfl, h1, r1⟩ := listOf_ok R a e
        simp only [Option.bind_some] at P
        cases e2 : toPs ys with
        | none => rw [e2] at P; exact P.elim
        | some ps =>
          rw [e2] at P
          exact ⟨p, vs, rfl, .inl ⟨SqL.of h1, fun l hl => newT_ok R hl (toPs_ok r1 e2) P⟩⟩
  · exact P.elim
end
end A

/-! The A-layer, part 6: targets, what is walked, for, comprehensions. -/
namespace A
open PySem PySem.Spec PyProof.Rows L2

/-! ### targets -/
abbrev DG := AV → Slots → Option Slots
abbrev DGs := List AV → Slots → Option Slots
/-- other slots than those at is are as they were -/
def Off (is : List Nat) (σ σ' : St) : Prop := σ'.length = σ.length ∧ ∀ i, i ∉ is → σ'[i]? = σ[i]?
def tgG (c : Ct) (is : List Nat) (d : DG) : TG := fun v σ H Q => ∃ F m st S x, F.c = c ∧ Rel F m st S σ H ∧ AVal F m st.length H x v ∧ match d x S with
  | some S' => ∀ σ', Rel F m st S' σ' H → Off is σ σ' → Q σ' H
  | none => False
def tgGs (c : Ct) (is : List Nat) (d : DGs) : TGs := fun vs σ H Q => ∃ F m st S xs, F.c = c ∧ Rel F m st S σ H ∧ AVls F m st.length H xs vs ∧ match d xs S with
  | some S' => ∀ σ', Rel F m st S' σ' H → Off is σ σ' → Q σ' H
  | none => False
abbrev PGA (X : Cx) (c : Ct) (is : List Nat) (e : Expr) (d : DG) : Prop := PG X e (tgG c is d)
abbrev PGsA (X : Cx) (c : Ct) (is : List Nat) (es : List Expr) (d : DGs) : Prop := PGs X es (tgGs c is d)
theorem _root_.L2.PG.imp {X : Cx} {e : Expr} {t t' : TG} (h : PG X e t) (f : ∀ v σ H Q, t' v σ H Q → t v σ H Q) : PG X e t' := ⟨fun pins s σ H v u Q I r hw => h.run pins s σ H v u Q I r (f v σ H Q hw)⟩
theorem _root_.L2.PGs.imp {X : Cx} {e : List Expr} {t t' : TGs} (h : PGs X e t) (f : ∀ v σ H Q, t' v σ H Q → t v σ H Q) : PGs X e t' := ⟨fun pins s σ H v u Q I r hw => h.run pins s σ H v u Q I r (f v σ H Q hw)⟩
section
variable {X : Cx} {c : Ct} {W : WX} {pos : Pos} {e : Expr} {es : List Expr}
def gN (i : Nat) : DG := fun x S => some (S.set i (some x))
theorem Off.set {σ : St} {i : Nat} {v : V} : Off [i] σ (σ.set i (some v)) := ⟨by simp, fun j h => by
  rw [List.getElem?_set_ne]
  intro z; subst z; simp at h⟩
theorem pga_name {i : Nat} {x : Str} (hN : X.N.Nodup) (hi : X.N[i]? = some x := by rfl) (hx : Loc X.env.scope x := by first | exact Or.inl rfl | exact Or.inr rfl) (hf : X.fn x = true ∨ X.env.scope.names.lookup x = some .local := by first | exact .inl rfl | exact .inr rfl) : PGA X c [i] (.Name x pos) (gN i) :=
  (pg_name hN hi hx hf).imp fun v σ H Q ⟨F, m, st, S, x, hc, R, rx, P⟩ => P _ (R.slot rx) Off.set
def gE : DGs := fun xs S => match xs with
  | [] => some S
  | _ => none
def gC (d : DG) (ds : DGs) : DGs := fun xs S => match xs with
  | x :: r => (d x S).bind fun S' => ds r S'
  | [] => none
theorem pgsa_nil : PGsA X c [] [] gE := pgs_nil.imp fun vs σ H Q ⟨F, m, st, S, xs, hc, R, rx, P⟩ => by
  cases rx with
  | nil => exact ⟨rfl, P σ R ⟨rfl, fun _ _ => rfl⟩⟩
  | cons a r => exact P.elim
theorem pgsa_cons {is js : List Nat} {d : DG} {ds : DGs} (h1 : PGA X c is e d) (h2 : PGsA X c js es ds) (hs : (assignEach (e :: es) X.env).map (·.2) = assign e X.env :: (assignEach es X.env).map (·.2) := by rfl) : PGsA X c (is ++ js) (e :: es) (gC d ds) :=
  (pgs_cons h1 h2 hs).imp fun vs σ H Q ⟨F, m, st, S, xs, hc, R, rx, P⟩ => by
    cases xs with
    | nil => exact False.elim P
    | cons x xs =>
      cases rx with
      | cons a r =>
        refine ⟨_, _, rfl, F, m, st, S, x, hc, R, a, ?_⟩
        cases q : d x S with
        | none => simp only [gC, q, Option.bind_none] at P
        | some S1 =>
          simp only [gC, q, Option.bind_some] at P
          refine fun σ1 R1 o1 => ⟨F, m, st, S1, xs, hc, R1, r, ?_⟩
          cases q2 : ds xs S1 with
          | none => rw [q2] at P; exact P.elim
          | some S2 =>
            rw [q2] at P
            exact fun σ2 R2 o2 => P σ2 R2 ⟨o2.1.trans o1.1, fun i hi => (o2.2 i fun z => hi (List.mem_append_right _ z)).trans (o1.2 i fun z => hi (List.mem_append_left _ z))⟩
/-- (a, b, ..) from a tuple -/
def gT (n : Nat) (ds : DGs) : DG := fun x S => match x with
  | .v (.tup ps) _ => bif Nat.beq ps.length n then ds (ps.map (AV.v · false)) S else none
  | _ => none
theorem pga_tup {is : List Nat} {k n : Nat} {ds : DGs} (cn : Cn X c) (h : PGsA X c is es ds) (hn : (assignEach es X.env).length = n := by rfl) (hst : (assignEach es X.env).findIdx? (·.1) = none := by rfl) : PGA X c is (.Tuple es k pos) (gT n ds) :=
  (pg_tup cn.calm h hn hst).imp fun v σ H Q ⟨F, m, st, S, x, hc, R, rx, P⟩ => by
    have bad : ∀ {o : Option Slots}, o = none → (match o with
      | some S' => ∀ σ', Rel F m st S' σ' H → Off is σ σ' → Q σ' H
      | none => False) → False := fun e h => by subst e; exact h
    cases x with
    | ref k => exact (bad rfl P).elim
    | v p fr =>
      cases p with
      | tup ps =>
        obtain ⟨a, vs, rfl, h1, r1⟩ := tup_ok rx
        rw [hc, cn.K] at h1
        cases q : Nat.beq ps.length n with
        | false => simp only [gT, q, cond_false] at P
        | true =>
          simp only [gT, q, cond_true] at P
          exact ⟨a, vs, rfl, h1, by rw [← Vls.length r1]; exact Nat.eq_of_beq_eq_true q, F, m, st, S, _, hc, R, Vls.avls r1, P⟩
      | _ => exact (bad rfl P).elim
/-- target = value -/
def dAsg (de : DE) (d : DG) : DS := fun S st => (de S st).flow S fun x st1 => match d x S with
  | some S' => .nx S' st1
  | none => .bad
theorem psa_asg {is : List Nat} {tg : Expr} {de : DE} {d : DG} (he : PEA X c W e de) (hg : PGA X c is tg d) (hs : swapsWithSole [tg] e pos.line X.env = pure false := by rfl) (hw : swappedStores [tg] e X.env = pure none := by rfl)
    (h1 : (assignEach [tg] X.env).map (·.2) = [assign tg X.env] := by rfl) : PSA X c W (.Assign [tg] e pos) (dAsg de d) := (ps_asg he hg hs hw h1).imp fun D σ H ⟨F, m, s, S, hc, R, P⟩ =>
  ⟨F, m, s, S, hc, R, (PostS.bind P).imp fun v H1 ⟨m1, s1, x, _, a1, R1, r1, P1⟩ => ⟨F, m1, s1, S, x, hc, R1, r1, by
    cases q : d x S with
    | none => rw [q] at P1; exact P1
    | some S' => rw [q] at P1; exact fun σ' R' _ => P1 m1 σ' H1 Step.refl R'⟩⟩
end

/-! ### what is walked -/
/-- J walks the items; G is what stands meanwhile -/
structure WalkA (c : Ct) (J : It) (items : List AV) (G : Fix → (Nat → Addr) → Nat → Hp → Prop) : Prop where
  stay : ∀ F m N H m' N' H', Step m N H m' N' H' → G F m N H → G F m' N' H'
  av : ∀ F m N H a, H a = none → G F m N H → G (F.av a) m N H
  over : ∀ F m N H D acc acc', F.Z D → H D = some (.lst acc) → G F m N H → G F m N (upd H D (.lst acc'))
  stop : ∀ F m st S σ H, F.c = c → Rel F m st S σ H → G F m st.length H → J.stop items.length H
  go : ∀ F m st S σ H i x, F.c = c → Rel F m st S σ H → G F m st.length H → items[i]? = some x → J.go i H
  yld : ∀ F m st S σ H i x v H', F.c = c → Rel F m st S σ H → G F m st.length H → items[i]? = some x → J.yld i H v H' → Same H H' ∧ AVal F m st.length H' x v
def PostI (c : Ct) (W : WX) (F : Fix) (m : Nat → Addr) (N : Nat) (H : Hp) (S : Slots) (σ : St) (r : Res (List AV)) (R : It → Hp → Prop) : Prop :=
  match r with
  | .ok xs st' => ∀ m' H' J G, Step m N H m' st'.length H' → Rel F m' st' S σ H' → WalkA c J xs G → G F m' st'.length H' → R J H'
  | .ex e st' => ∀ m' H' cls d, Step m N H m' st'.length H' → Rel F m' st' S σ H' → ERep F.c (Lw F m' st'.length) H' e cls d → W cls d σ H'
  | .bad => False
def tI (c : Ct) (W : WX) (d : DA) : TI := fun σ H R => ∃ F m st S, F.c = c ∧ Rel F m st S σ H ∧ PostI c W F m st.length H S σ (d S st) R
abbrev PIA (X : Cx) (c : Ct) (W : WX) (tg e : Expr) (d : DA) : Prop := PI X tg e (tI c W d)
theorem _root_.L2.PI.imp {X : Cx} {tg e : Expr} {t t' : TI} (h : PI X tg e t) (f : ∀ σ H R, t' σ H R → t σ H R) : PI X tg e t' := ⟨fun pins s σ H R I hw => h.run pins s σ H R I (f σ H R hw)⟩
theorem PostI.shift {c : Ct} {W : WX} {F : Fix} {m m1 : Nat → Addr} {N N1 : Nat} {H H1 : Hp} {S : Slots} {σ : St} {r : Res (List AV)} {R : It → Hp → Prop} (s : Step m N H m1 N1 H1) (h : PostI c W F m N H S σ r R) : PostI c W F m1 N1 H1 S σ r R := by
  cases r with
  | ok x st' => exact fun m' H' J G a => h m' H' J G (s.trans a)
  | ex e st' => exact fun m' H' cls d a b c => h m' H' cls d (s.trans a) b c
  | bad => exact h
theorem PostI.bind {α β : Type} {rel : VRel α β} {c : Ct} {W : WX} {F : Fix} {m : Nat → Addr} {N : Nat} {H : Hp} {S : Slots} {σ : St} {r : Res α} {k : α → Store → Res (List AV)} {R : It → Hp → Prop} (h : PostI c W F m N H S σ (r.then k) R) :
    PostE rel W F m N H S σ r fun v H1 => ∃ m1 st1 x, r = .ok x st1 ∧ Step m N H m1 st1.length H1 ∧ Rel F m1 st1 S σ H1 ∧ rel F m1 st1.length H1 x v ∧ PostI c W F m1 st1.length H1 S σ (k x st1) R := by
  cases r with
  | ok x st1 => exact fun m1 v H1 a b c => ⟨m1, st1, x, rfl, a, b, c, PostI.shift a h⟩
  | ex e st1 => exact h
  | bad => exact h
theorem PostI.here {c : Ct} {W : WX} {F : Fix} {m : Nat → Addr} {st : Store} {H : Hp} {S : Slots} {σ : St} {xs : List AV} {R : It → Hp → Prop} (h : PostI c W F m st.length H S σ (.ok xs st) R) (r : Rel F m st S σ H) {J : It} {G} (w : WalkA c J xs G) (g : G F m st.length H) : R J H :=
  h m H J G Step.refl r w g

/-! ### for -/
section
variable {X : Cx} {c : Ct} {W : WX} {pos : Pos}
def forL (tg : DG) (b : DS) : List AV → DS
  | [], S, st => .nx S st
  | x :: xs, S, st => match tg x S with
    | none => .bad
    | some S1 => match b S1 st with
      | .nx S' st' => forL tg b xs S' st'
      | .ct S' st' => forL tg b xs S' st'
      | .bk S' st' => .nx S' st'
      | r => r
def dFor (it : DA) (tg : DG) (b : DS) : DS := fun S st => (it S st).flow S fun xs st1 => forL tg b xs S st1
def PostIS {W : WX} {F : Fix} {m : Nat → Addr} {N : Nat} {H : Hp} {S : Slots} {σ : St} {r : Res (List AV)} {k : List AV → Store → Flow} {D : Ends} (h : PostS W F m N H (r.flow S k) D) :
    PostI c W F m N H S σ r fun J H1 => ∃ m1 st1 xs G, r = .ok xs st1 ∧ Step m N H m1 st1.length H1 ∧ Rel F m1 st1 S σ H1 ∧ WalkA c J xs G ∧ G F m1 st1.length H1 ∧ PostS W F m1 st1.length H1 (k xs st1) D := by
  cases r with
  | ok xs st1 => exact fun m1 H1 J G a b w g => ⟨m1, st1, xs, G, rfl, a, b, w, g, PostS.shift a h⟩
  | ex e st1 => exact fun m' H' cls d a b er => h m' σ H' cls d a b er
  | bad => exact h
theorem psa_for (cn : Cn X c) {is : List Nat} {tg iter : Expr} {body : List Stmt} {di : DA} {dg : DG} {db : DS} (hi : PIA X c W tg iter di) (hg : PGA X c is tg dg) (hb : PSsA X c W body db)
    (hs : ∀ x, foldedSetIterable iter X.env x = pure x := by intro _; rfl) : PSA X c W (.For tg iter body [] pos) (dFor di dg db) := (ps_for cn.pas cn.calm hi hg hb hs).imp fun D σ H ⟨F, m, s, S, hc, R, P⟩ => by
  refine ⟨F, m, s, S, hc, R, ?_⟩
  have P2 := PostIS (c := c) (σ := σ) P
  have imp : ∀ {r : Res (List AV)} {R R' : It → Hp → Prop}, PostI c W F m s.length H S σ r R → (∀ J H, R J H → R' J H) → PostI c W F m s.length H S σ r R' := fun {r R R'} h f => by
    cases r with
    | ok x st' => exact fun m' H' J G a b w g => f _ _ (h m' H' J G a b w g)
    | ex e st' => exact h
    | bad => exact h
  refine imp P2 fun J H1 ⟨m1, s1, xs, G, _, a1, R1, w, g1, P1⟩ => ?_
  refine ⟨fun i n σ H => n = xs.length - i ∧ i ≤ xs.length ∧ ∃ m st S, Rel F m st S σ H ∧ G F m st.length H ∧ PostS W F m st.length H (forL dg db (xs.drop i) S st) D, ⟨_, rfl, Nat.zero_le _, m1, s1, S, R1, g1, P1⟩, ?_⟩
  rintro i n σ2 H2 ⟨rfl, hi, m2, s2, S2, R2, g2, P2⟩
  by_cases hlt : i < xs.length
  · have ex : xs[i]? = some xs[i] := List.getElem?_eq_getElem hlt
    refine .inr ⟨w.go F m2 s2 S2 σ2 H2 i _ hc R2 g2 ex, fun σ' H' => i + 1 ≤ xs.length ∧ ∃ m st S, Rel F m st S σ' H' ∧ G F m st.length H' ∧ PostS W F m st.length H' (forL dg db (xs.drop (i + 1)) S st) D, fun σ' H' q => ⟨xs.length - (i + 1), by omega, rfl, q⟩, fun v H3 y => ?_⟩
    obtain ⟨s3, r3⟩ := w.yld F m2 s2 S2 σ2 H2 i _ v H3 hc R2 g2 ex y
    have R3 := R2.same s3
    have g3 := w.stay F m2 s2.length H2 m2 s2.length H3 (Step.of s3) g2
    have P3 := PostS.shift (Step.of (m := m2) (N := s2.length) s3) P2
    rw [List.drop_eq_getElem_cons hlt] at P3
    refine ⟨F, m2, s2, S2, xs[i], hc, R3, r3, ?_⟩
    cases q : dg xs[i] S2 with
    | none => simp only [forL, q] at P3; exact P3
    | some S4 =>
      simp only [forL, q] at P3
      refine fun σ4 R4 _ => ⟨F, m2, s2, S4, hc, R4, ?_⟩
      cases e : db S4 s2 with
      | nx S' st' => rw [e] at P3; exact fun m' σ' H' a b => ⟨hlt, m', st', S', b, w.stay _ _ _ _ _ _ _ a g3, PostS.shift a P3⟩
      | ct S' st' => rw [e] at P3; exact fun m' σ' H' a b => ⟨hlt, m', st', S', b, w.stay _ _ _ _ _ _ _ a g3, PostS.shift a P3⟩
      | bk S' st' => rw [e] at P3; exact P3
      | rt x st' => rw [e] at P3; exact P3
      | ex x S' st' => rw [e] at P3; exact P3
      | bad => rw [e] at P3; exact P3
  · have : i = xs.length := by omega
    subst this
    rw [List.drop_length] at P2
    exact .inl ⟨w.stop F m2 s2 S2 σ2 H2 hc R2 g2, P2 m2 σ2 H2 Step.refl R2⟩
end

/-! ### a range, a list, a tuple walked -/
section
variable {X : Cx} {c : Ct} {W : WX} {tg e : Expr} {es : List Expr} {de : DE} {da : DA} {p pos : Pos}
def rangeL (lo : Int) (n : Nat) : List AV := (List.range n).map fun (i : Nat) => .v (.int (lo + (i : Int))) false
theorem walk_range (lo : Int) (n : Nat) : WalkA c (Itr lo n) (rangeL lo n) fun _ _ _ _ => True where
  stay := fun _ _ _ _ _ _ _ _ _ => trivial
  av := fun _ _ _ _ _ _ _ => trivial
  over := fun _ _ _ _ _ _ _ _ _ _ => trivial
  stop := fun F m st S σ H hc R g => by show n ≤ (rangeL lo n).length; simp [rangeL]
  go := fun F m st S σ H i x hc R g e => by
    have := (List.getElem?_eq_some_iff.mp e).1
    show i < n
    simpa [rangeL] using this
  yld := fun F m st S σ H i x v H' hc R g e y => by
    obtain ⟨rfl, rfl⟩ := y
    have hi := (List.getElem?_eq_some_iff.mp e).1
    have : x = .v (.int (lo + (i : Int))) false := by
      unfold rangeL at e hi
      rw [List.getElem?_map, List.getElem?_range (by simpa using hi)] at e
      cases e; rfl
    subst this
    exact ⟨fun b o h => h, .v (.int _) fun e => nomatch e⟩
def bnd (i : Int) : Bool := decide (-(2 ^ 62) ≤ i) && decide (i < 2 ^ 62)
def asI1 : List AV → Option Int
  | [.v (.int j) _] => some j
  | _ => none
def asI2 : List AV → Option (Int × Int)
  | [.v (.int i) _, .v (.int j) _] => some (i, j)
  | _ => none
theorem asI1_ok {F : Fix} {m : Nat → Addr} {N : Nat} {H : Hp} {xs : List AV} {vs : List V} {j : Int} (h : AVls F m N H xs vs) (e : asI1 xs = some j) : vs = [.int j] := by
  unfold asI1 at e
  split at e
  · cases e
    cases h with
    | cons a t => cases t; rw [isI a]
  · cases e
theorem asI2_ok {F : Fix} {m : Nat → Addr} {N : Nat} {H : Hp} {xs : List AV} {vs : List V} {i j : Int} (h : AVls F m N H xs vs) (e : asI2 xs = some (i, j)) : vs = [.int i, .int j] := by
  unfold asI2 at e
  split at e
  · cases e
    cases h with
    | cons a t =>
      cases t with
      | cons b t => cases t; rw [isI a, isI b]
  · cases e
def dRange1 (da : DA) : DA := fun S st => (da S st).then fun xs st1 => match asI1 xs with
  | some j => bif bnd j then .ok (rangeL 0 j.toNat) st1 else .bad
  | none => .bad
def dRange2 (da : DA) : DA := fun S st => (da S st).then fun xs st1 => match asI2 xs with
  | some (i, j) => bif bnd i && bnd j then .ok (rangeL i (j - i).toNat) st1 else .bad
  | none => .bad
theorem bnd_ok {i : Int} (h : bnd i = true) : -(2 ^ 62) ≤ i ∧ i < 2 ^ 62 := by
  unfold bnd at h
  rw [Bool.and_eq_true] at h
  exact ⟨of_decide_eq_true h.1, of_decide_eq_true h.2⟩
theorem pia_range1 {a : Expr} (hm : X.mg "range" = none) (ha : PAA X c W [a] da) (hg : Gl X "range" := by rfl) (hs : starEach [a] X.env = [(false, eval a X.env)] := by rfl) : PIA X c W tg (.Call (.Name "range" p) [a] [] pos) (dRange1 da) :=
  (pi_range1 hg hm ha hs).imp fun σ H R ⟨F, m, s, S, hc, R0, P⟩ => ⟨F, m, s, S, hc, R0, (PostI.bind P).imp fun vs H1 ⟨m1, s1, xs, _, a1, R1, r1, P1⟩ => by
    cases e : asI1 xs with
    | none => rw [e] at P1; exact P1.elim
    | some j =>
      rw [e] at P1
      simp only at P1
      cases q : bnd j with
      | false => rw [q] at P1; exact P1.elim
      | true =>
        rw [q] at P1
        exact ⟨j, asI1_ok r1 e, (bnd_ok q).1, (bnd_ok q).2, PostI.here P1 R1 (walk_range 0 _) trivial⟩⟩
theorem pia_range2 {a b : Expr} (hm : X.mg "range" = none) (ha : PAA X c W [a, b] da) (hg : Gl X "range" := by rfl) (hs : starEach [a, b] X.env = [(false, eval a X.env), (false, eval b X.env)] := by rfl) (hs2 : starEach [b] X.env = [(false, eval b X.env)] := by rfl) : PIA X c W tg (.Call (.Name "range" p) [a, b] [] pos) (dRange2 da) :=
  (pi_range2 hg hm ha hs hs2).imp fun σ H R ⟨F, m, s, S, hc, R0, P⟩ => ⟨F, m, s, S, hc, R0, (PostI.bind P).imp fun vs H1 ⟨m1, s1, xs, _, a1, R1, r1, P1⟩ => by
    cases e : asI2 xs with
    | none => rw [e] at P1; exact P1.elim
    | some ij =>
      obtain ⟨i, j⟩ := ij
      rw [e] at P1
      simp only at P1
      cases q : bnd i && bnd j with
      | false => rw [q] at P1; exact P1.elim
      | true =>
        rw [q] at P1
        rw [Bool.and_eq_true] at q
        exact ⟨i, j, asI2_ok r1 e, ⟨(bnd_ok q.1).1, (bnd_ok q.1).2, (bnd_ok q.2).1, (bnd_ok q.2).2⟩, PostI.here P1 R1 (walk_range i _) trivial⟩⟩
theorem over_imm {H : Hp} {D : Addr} {acc acc' : List V} (hD : H D = some (.lst acc)) : ∀ a o, H a = some o → isMut o = false → upd H D (.lst acc') a = some o := fun a o h q => by
  rw [upd_ne (fun z => by subst z; rw [hD] at h; cases h; cases q)]; exact h
theorem over_vls {c : Ct} {F : Fix} {m : Nat → Addr} {N : Nat} {H : Hp} {D : Addr} {acc acc' : List V} {ps : List PV} {vs : List V} (hz : F.Z D) (hD : H D = some (.lst acc)) (h : Vls c (Lw F m N) H ps vs) : Vls c (Lw F m N) (upd H D (.lst acc')) ps vs :=
  Vls.mono (over_imm hD) (fun t a o l h => by rw [upd_ne (fun z => l.2.1 (by rw [z]; exact hz))]; exact h) (fun t a l _ => l) h
/-- the items of a value that is walked (the store's own lists are not: their loop is another) -/
def itemsV : AV → Option (List AV)
  | .v (.lst _ ps) _ => some (ps.map (AV.v · false))
  | .v (.tup ps) _ => some (ps.map (AV.v · false))
  | .v (.scr ns) _ => some (ns.map fun i => .v (.int i) false)
  | _ => none
def dItem (de : DE) : DA := fun S st => (de S st).then fun x st1 => match itemsV x with
  | some xs => .ok xs st1
  | none => .bad
theorem map_get {ps : List PV} {i : Nat} {x : AV} (e : (ps.map (AV.v · false))[i]? = some x) : ∃ p, ps[i]? = some p ∧ x = .v p false := by
  rw [List.getElem?_map] at e
  cases q : ps[i]? with
  | none => rw [q] at e; cases e
  | some p => rw [q] at e; cases e; exact ⟨p, rfl, rfl⟩
theorem walk_lst {a : Addr} {ps : List PV} {vs : List V} {t : Bool} : WalkA c (Itl c.K a) (ps.map (AV.v · false)) fun F m N H => F.c = c ∧ H a = some (.lst vs) ∧ Lw F m N t a ∧ Vls F.c (Lw F m N) H ps vs where
  stay := fun F m N H m' N' H' s ⟨h0, h1, h2, h3⟩ => ⟨h0, s.keep a _ h1 h2.2.2, Lw.step s h2 (some_ne h1), Vls.step s h3⟩
  av := fun F m N H b hb ⟨h0, h1, h2, h3⟩ => ⟨h0, h1, ⟨h2.1, ⟨fun z => Or.elim z h2.2.1 fun z => (by rw [z, hb] at h1; cases h1), h2.2.2⟩⟩, Vls.av h3 hb⟩
  over := fun F m N H D acc acc' hz hD ⟨h0, h1, h2, h3⟩ => ⟨h0, by rw [upd_ne (fun z => h2.2.1 (by rw [z]; exact hz))]; exact h1, h2, over_vls hz hD h3⟩
  stop := fun F m st S σ H hc R ⟨h0, h1, h2, h3⟩ => ⟨vs, SqL.of h1, by simp [Vls.length h3]⟩
  go := fun F m st S σ H i x hc R ⟨h0, h1, h2, h3⟩ e => by
    obtain ⟨p, e1, rfl⟩ := map_get e
    obtain ⟨v, e2, _⟩ := Vls.get h3 e1
    exact ⟨vs, v, SqL.of h1, e2⟩
  yld := fun F m st S σ H i x v H' hc R ⟨h0, h1, h2, h3⟩ e y => by
    obtain ⟨p, e1, rfl⟩ := map_get e
    obtain ⟨v', e2, h4⟩ := Vls.get h3 e1
    obtain ⟨rfl, y⟩ := y
    have := y vs (SqL.of h1)
    rw [e2] at this; cases this
    exact ⟨fun b o h => h, .v h4 fun e => nomatch e⟩
theorem walk_tup {a : Addr} {ps : List PV} {vs : List V} : WalkA c (Itt c.K a) (ps.map (AV.v · false)) fun F m N H => F.c = c ∧ SqT c.K H a vs ∧ Vls F.c (Lw F m N) H ps vs where
  stay := fun F m N H m' N' H' s ⟨h0, h1, h3⟩ => ⟨h0, sqT_imm s.imm h1, Vls.step s h3⟩
  av := fun F m N H b hb ⟨h0, h1, h3⟩ => ⟨h0, h1, Vls.av h3 hb⟩
  over := fun F m N H D acc acc' hz hD ⟨h0, h1, h3⟩ => ⟨h0, sqT_imm (over_imm hD) h1, over_vls hz hD h3⟩
  stop := fun F m st S σ H hc R ⟨h0, h1, h3⟩ => ⟨vs, h1, by simp [Vls.length h3]⟩
  go := fun F m st S σ H i x hc R ⟨h0, h1, h3⟩ e => by
    obtain ⟨p, e1, rfl⟩ := map_get e
    obtain ⟨v, e2, _⟩ := Vls.get h3 e1
    exact ⟨vs, v, h1, e2⟩
  yld := fun F m st S σ H i x v H' hc R ⟨h0, h1, h3⟩ e y => by
    obtain ⟨p, e1, rfl⟩ := map_get e
    obtain ⟨v', e2, h4⟩ := Vls.get h3 e1
    obtain ⟨rfl, y⟩ := y
    have := y vs h1
    rw [e2] at this; cases this
    exact ⟨fun b o h => h, .v h4 fun e => nomatch e⟩
/-- where the script stands -/
def ScrAt (K : PySem.W.Frag) (H : Hp) (a : Addr) (ns : List Int) : Prop := (∃ o, H a = some (.frz o (.lst (ns.map V.int)))) ∨ SqL K (fun _ => none) a (ns.map V.int)
theorem walk_scr {a : Addr} {ns : List Int} : WalkA c (Itl c.K a) (ns.map fun i => .v (.int i) false) fun F m N H => ScrAt c.K H a ns where
  stay := fun F m N H m' N' H' s h => by
    rcases h with ⟨o, h⟩ | h
    · exact .inl ⟨o, s.imm _ _ h rfl⟩
    · exact .inr h
  av := fun F m N H b hb h => h
  over := fun F m N H D acc acc' hz hD h => by
    rcases h with ⟨o, h⟩ | h
    · exact .inl ⟨o, over_imm hD _ _ h rfl⟩
    · exact .inr h
  stop := fun F m st S σ H hc R h => ⟨_, scr_sq h, by simp⟩
  go := fun F m st S σ H i x hc R h e => by
    rw [List.getElem?_map] at e
    cases q : ns[i]? with
    | none => rw [q] at e; cases e
    | some n => exact ⟨_, .int n, scr_sq h, by rw [List.getElem?_map, q]; rfl⟩
  yld := fun F m st S σ H i x v H' hc R h e y => by
    rw [List.getElem?_map] at e
    cases q : ns[i]? with
    | none => rw [q] at e; cases e
    | some n =>
      rw [q] at e; cases e
      obtain ⟨rfl, y⟩ := y
      have := y _ (scr_sq h)
      rw [List.getElem?_map, q] at this
      cases this
      exact ⟨fun b o h => h, .v (.int n) fun e => nomatch e⟩
/-- a list or a tuple -/
def iSeq (K : PySem.W.Frag) (tl : TE) : TI := fun σ H R => tl σ H fun x H1 => ∃ a, x = .ref a ∧ (((∃ xs, SqL K H1 a xs) ∧ R (Itl K a) H1) ∨ ((∃ xs, SqT K H1 a xs) ∧ R (Itt K a) H1))
theorem pi_seq {l : Expr} {tl : TE} (hl : PE X l tl) : PI X tg l (iSeq X.K tl) := by
  refine ⟨fun pins s σ H R I h => ?_⟩
  refine thn (hl.run pins s σ H _ I h) fun v s1 ⟨x, H1, I1, r1, q1⟩ => ?_
  obtain ⟨a, e, q⟩ := q1
  subst e
  cases r1
  rcases q with ⟨⟨xs, hq⟩, q⟩ | ⟨⟨xs, hq⟩, q⟩
  · obtain ⟨its, rv, p, hz⟩ := I1.list hq
    refine wpAny_pyIter_list p.isList ?_
    refine ⟨s1.heap.objs.size, [s1.heap.objs.size], _, _, H1, rfl, I1.kept (t' := s1.toks) fun b o e => Heap.get?_push_of_some _ e, turn_list a _, ⟨_, Heap.get?_push_size _ rfl, rfl, rfl⟩, fun b hb => ?_, q⟩
    have e : b = s1.heap.objs.size := by simpa using hb
    subst e
    exact I1.fpOk (Nat.le_refl _) (I1.hok.fresh (Nat.le_refl _))
  · obtain ⟨its, rv, p, hz⟩ := I1.tuple hq
    refine wpAny_pyIter_tuple (show s1.heap.IsTuple a its.toArray from p) ?_
    refine ⟨s1.heap.objs.size, [s1.heap.objs.size], _, _, H1, rfl, I1.kept (t' := s1.toks) fun b o e => Heap.get?_push_of_some _ e, turn_tuple a _, ⟨_, Heap.get?_push_size _ rfl, rfl, rfl⟩, fun b hb => ?_, q⟩
    have e : b = s1.heap.objs.size := by simpa using hb
    subst e
    exact I1.fpOk (Nat.le_refl _) (I1.hok.fresh (Nat.le_refl _))
theorem pia_seq (hK : c.K = X.K := by rfl) (he : PEA X c W e de) : PIA X c W tg e (dItem de) := (pi_seq he).imp fun σ H R ⟨F, m, s, S, hc, R0, P⟩ => by
  rw [← hK]
  refine ⟨F, m, s, S, hc, R0, (PostI.bind P).imp fun v H1 ⟨m1, s1, x, _, a1, R1, r1, P1⟩ => ?_⟩
  cases x with
  | ref n => exact P1.elim
  | v p fr =>
    cases r1 with
    | v h f =>
      cases h with
      | tup h r =>
        rw [hc] at h
        exact ⟨_, rfl, .inr ⟨⟨_, h⟩, PostI.here P1 R1 walk_tup ⟨hc, h, r⟩⟩⟩
      | lst h l r => exact ⟨_, rfl, .inl ⟨⟨_, SqL.of h⟩, PostI.here P1 R1 walk_lst ⟨hc, h, l, r⟩⟩⟩
      | scr h =>
        rw [hc] at h
        exact ⟨_, rfl, .inl ⟨⟨_, scr_sq h⟩, PostI.here P1 R1 walk_scr h⟩⟩
      | _ => exact P1.elim
end

/-! ### comprehensions -/
def noEx {α : Type} (r : Res α) : Res α := match r with
  | .ok x st => .ok x st
  | _ => .bad
def wipeS (S : Slots) : List Nat → Slots
  | [] => S
  | v :: vs => (wipeS S vs).set v none
/-- each item's value, in order -/
def compL (tg : DG) (t : DT) (e : DE) (S0 : Slots) : List AV → Store → Res (List AV)
  | [], st => .ok [] st
  | x :: xs, st => match tg x S0 with
    | none => .bad
    | some S1 => (t S1 st).then fun k st1 => bif k then (e S1 st1).then fun y st2 => (compL tg t e S0 xs st2).then fun ys st3 => .ok (y :: ys) st3 else compL tg t e S0 xs st1
def dComp (r : Bool) (vs : List Nat) (it : DA) (tg : DG) (t : DT) (e : DE) : DE := fun S st => (it S st).then fun xs st1 => (noEx (compL tg t e (wipeS S vs) xs st1)).then fun ys st2 => bif Nat.ble ys.length 1000000 then newL r ys st2 else .bad
abbrev W0 : WX := fun _ _ _ _ => False
def dYes : DT := fun _ st => .ok true st
section
variable {X : Cx} {c : Ct} {W : WX} {F : Fix} {m : Nat → Addr} {H : Hp} {S : Slots} {σ : St} {st : Store}
theorem wipeS_len (S : Slots) : ∀ vs : List Nat, (wipeS S vs).length = S.length
  | [] => rfl
  | v :: vs => by unfold wipeS; rw [List.length_set, wipeS_len S vs]
theorem Rel.wipe (R : Rel F m st S σ H) : ∀ vs : List Nat, Rel F m st (wipeS S vs) (wipe σ vs) H
  | [] => R
  | v :: vs => (Rel.wipe R vs).unslot
theorem wipe_get {σ : St} {i : Nat} : ∀ {vs : List Nat}, i ∈ vs → i < σ.length → (L2.wipe σ vs)[i]? = some none
  | [], h, _ => by simp at h
  | v :: vs, h, hi => by
    unfold L2.wipe
    by_cases q : i = v
    · subst q
      rw [List.getElem?_set_self (by rw [wipe_length]; exact hi)]
    · rw [List.getElem?_set_ne (Ne.symm q)]
      exact wipe_get (by simpa [q] using h) hi
theorem wipe_off {σ : St} {i : Nat} : ∀ {vs : List Nat}, i ∉ vs → (L2.wipe σ vs)[i]? = σ[i]?
  | [], _ => rfl
  | v :: vs, h => by
    have h1 : v ≠ i := fun z => h (by subst z; exact List.mem_cons_self)
    unfold L2.wipe
    rw [List.getElem?_set_ne h1, wipe_off fun z => h (List.mem_cons_of_mem _ z)]
/-- the block's own names forgotten again -/
theorem wipe_same {σ σ2 : St} {is vs : List Nat} (o : Off is (L2.wipe σ vs) σ2) (h : ∀ i ∈ is, i ∈ vs) : L2.wipe σ2 vs = L2.wipe σ vs := by
  have hl : σ2.length = σ.length := o.1.trans (wipe_length σ vs)
  apply List.ext_getElem?
  intro i
  by_cases hi : i ∈ vs
  · by_cases hb : i < σ.length
    · rw [wipe_get hi (by omega), wipe_get hi hb]
    · rw [List.getElem?_eq_none_iff.mpr (by rw [wipe_length]; omega), List.getElem?_eq_none_iff.mpr (by rw [wipe_length]; omega)]
  · rw [wipe_off hi, o.2 i (fun z => hi (h i z)), wipe_off hi]
theorem wipe_wipe (σ : St) (vs : List Nat) : L2.wipe (L2.wipe σ vs) vs = L2.wipe σ vs := wipe_same ⟨rfl, fun _ _ => rfl⟩ (is := []) (by simp)
/-- the list at D, made within, becomes a place of the store -/
theorem Rel.adopt {D : Addr} {xs : List AV} {acc : List V} (R : Rel (F.av D) m st S σ H) (hD : H D = some (.lst acc)) (h0 : F.H0 D = none) (hz : ¬ F.Z D) (rx : AVls0 (F.av D) m st.length H xs acc) :
    ∃ m', (∀ i, i < st.length → m' i = m i) ∧ m' st.length = D ∧ Rel F m' (st ++ [.lst (xs.map strip)]) S σ H := by
  have hm : ∀ i, i < st.length → (fun j => if j = st.length then D else m j) i = m i := fun i hi => if_neg (by omega)
  have hme : (fun j => if j = st.length then D else m j) st.length = D := if_pos rfl
  generalize hmm : (fun j => if j = st.length then D else m j) = m' at hm hme
  have hl : (st ++ [AO.lst (xs.map strip)]).length = st.length + 1 := by simp
  have nD : ∀ i, i < st.length → m i ≠ D := (R.zd D (.inr rfl)).2
  have kL : ∀ t b, Lw (F.av D) m st.length t b → H b ≠ none → Lw F m' (st.length + 1) t b := fun t b l _ => ⟨l.1, fun z => l.2.1 (.inl z), fun i hi z => by
    by_cases q : i < st.length
    · exact l.2.2 i q ((hm i q).symm.trans z)
    · have : i = st.length := by omega
      subst this
      rw [hme] at z
      exact l.2.1 (.inr z.symm)⟩
  have v0 : ∀ {x : AV} {v : V}, AVal0 (F.av D) m st.length H x v → AVal0 F m' (st.length + 1) H x v := fun {x v} h => by
    cases h with
    | v h => exact .v (Val.ground kL h)
    | ref h => rw [← hm _ h]; exact .ref (by omega)
  have v1 : ∀ {x : AV} {v : V}, AVal (F.av D) m st.length H x v → AVal F m' (st.length + 1) H x v := fun {x v} h => by
    cases h with
    | v h f =>
      refine .v (Val.ground kL h) fun e => ?_
      obtain ⟨t, ys, a, us, rfl, rfl, q, ha, r⟩ := f e
      exact ⟨t, ys, a, us, rfl, rfl, q, ha, Vls.ground (fun t a l e => ⟨kL t a l.1 e, l.2⟩) r⟩
    | ref h => rw [← hm _ h]; exact .ref (by omega)
  have ob : ∀ {o : AO} {u : HO}, AObj (F.av D) m st.length H o u → AObj F m' (st.length + 1) H o u := fun {o u} h => by
    cases h with
    | lst h => exact .lst (Paired.mapP h fun _ _ => v0)
    | dK h => exact .dK (Paired.mapP h fun a b z => ⟨z.1, v0 z.2⟩)
    | dT h => exact .dT (Paired.mapP h fun a b z => ⟨z.1, v0 z.2⟩)
    | ins h => exact .ins (F := F) (Paired.mapP h fun a b z => ⟨z.1, v0 z.2⟩)
  refine ⟨m', hm, hme, ⟨fun i j hi hj e => ?_, fun i hi => ?_, R.keep, R.imm, R.dom, fun b h => ⟨(R.zd b (.inl h)).1, fun i hi z => ?_⟩, fun i o e => ?_, R.len, fun i x e => ?_⟩⟩
  · rw [hl] at hi hj
    by_cases a : i = st.length
    · by_cases b : j = st.length
      · rw [a, b]
      · rw [a, hme, hm j (by omega)] at e
        exact absurd e.symm (nD j (by omega))
    · by_cases b : j = st.length
      · rw [b, hme, hm i (by omega)] at e
        exact absurd e (nD i (by omega))
      · rw [hm i (by omega), hm j (by omega)] at e
        exact R.inj i j (by omega) (by omega) e
  · rw [hl] at hi
    by_cases a : i = st.length
    · subst a; rw [hme]; exact .inr h0
    · rw [hm i (by omega)]; exact R.own i (by omega)
  · rw [hl] at hi
    by_cases a : i = st.length
    · subst a; rw [hme] at z; subst z
      exact hz h
    · rw [hm i (by omega)] at z; exact (R.zd b (.inl h)).2 i (by omega) z
  · rw [hl]
    by_cases a : i = st.length
    · subst a
      rw [List.getElem?_append_right (Nat.le_refl _), Nat.sub_self] at e
      cases e
      exact ⟨.lst acc, by rw [hme]; exact hD, .lst (AVls.zero (AVls0.strip (Paired.mapP rx fun _ _ => v0)))⟩
    · have hi : i < st.length := by
        have := (List.getElem?_eq_some_iff.mp e).1
        rw [hl] at this; omega
      rw [List.getElem?_append_left hi] at e
      obtain ⟨u', h1, h2⟩ := R.sto i o e
      exact ⟨u', by rw [hm i hi]; exact h1, ob h2⟩
  · rw [hl]
    obtain ⟨v, h1, h2⟩ := R.slo i x e
    exact ⟨v, h1, v1 h2⟩
/-- the list at D, which no value names, is made longer -/
theorem Rel.zset {D : Addr} {acc acc' : List V} (R : Rel F m st S σ H) (hz : F.Z D) (h0 : F.H0 D = none) (hD : H D = some (.lst acc)) : Rel F m st S σ (upd H D (.lst acc')) ∧ Step m st.length (fun b => if b = D then none else H b) m st.length (upd H D (.lst acc')) ∧
    ∀ {xs : List AV} {vs : List V}, AVls0 F m st.length H xs vs → AVls0 F m st.length (upd H D (.lst acc')) xs vs := by
  have ki : ∀ a o, H a = some o → isMut o = false → upd H D (.lst acc') a = some o := fun a o h q => by
    rw [upd_ne (fun z => by subst z; rw [hD] at h; cases h; cases q)]; exact h
  have kl : ∀ t a o, Lw F m st.length t a → H a = some o → upd H D (.lst acc') a = some o := fun t a o l h => by
    rw [upd_ne (fun z => l.2.1 (by rw [z]; exact hz))]; exact h
  have kL : ∀ t a, Lw F m st.length t a → H a ≠ none → Lw F m st.length t a := fun t a l _ => l
  have dm : ∀ b, H b ≠ none → upd H D (.lst acc') b ≠ none := fun b h => by
    by_cases e : b = D
    · rw [e, upd_same]; simp
    · rw [upd_ne e]; exact h
  have v0 : ∀ {x : AV} {v : V}, AVal0 F m st.length H x v → AVal0 F m st.length (upd H D (.lst acc')) x v := fun {x v} h => by
    cases h with
    | v h => exact .v (Val.mono ki kl kL h)
    | ref h => exact .ref h
  have v1 : ∀ {x : AV} {v : V}, AVal F m st.length H x v → AVal F m st.length (upd H D (.lst acc')) x v := fun {x v} h => by
    cases h with
    | v h f =>
      refine .v (Val.mono ki kl kL h) fun e => ?_
      obtain ⟨t, ys, a, us, rfl, rfl, q, ha, r⟩ := f e
      exact ⟨t, ys, a, us, rfl, rfl, q, kl t a _ (Val.lst_L h) ha, Vls.mono ki (fun t a o l => kl t a o l.1) (fun t a l e => l) r⟩
    | ref h => exact .ref h
  have ob : ∀ {o : AO} {u : HO}, AObj F m st.length H o u → AObj F m st.length (upd H D (.lst acc')) o u := fun {o u} h => by
    cases h with
    | lst h => exact .lst (Paired.mapP h fun _ _ => v0)
    | dK h => exact .dK (Paired.mapP h fun a b z => ⟨z.1, v0 z.2⟩)
    | dT h => exact .dT (Paired.mapP h fun a b z => ⟨z.1, v0 z.2⟩)
    | ins h => exact .ins (Paired.mapP h fun a b z => ⟨z.1, v0 z.2⟩)
  refine ⟨⟨R.inj, R.own, fun b o h1 h2 => ?_, fun b o h1 h2 => ki b o (R.imm b o h1 h2) h2, fun b h => dm b (R.dom b h), fun b h => ⟨dm b (R.zd b h).1, (R.zd b h).2⟩, fun i o e => ?_, R.len, fun i x e => ?_⟩, ?_, fun h => Paired.mapP h fun _ _ => v0⟩
  · rw [upd_ne (fun z => by rw [z, h0] at h1; cases h1)]; exact R.keep b o h1 h2
  · obtain ⟨u, h1, h2⟩ := R.sto i o e
    refine ⟨u, ?_, ob h2⟩
    rw [upd_ne ((R.zd D hz).2 i (List.getElem?_eq_some_iff.mp e).1)]; exact h1
  · obtain ⟨v, h1, h2⟩ := R.slo i x e
    exact ⟨v, h1, v1 h2⟩
  · have un : ∀ b o, (fun b => if b = D then none else H b) b = some o → H b = some o ∧ b ≠ D := fun b o h => by
      by_cases e : b = D
      · simp only [e, if_pos] at h; cases h
      · simp only [if_neg e] at h; exact ⟨h, e⟩
    refine ⟨Nat.le_refl _, fun _ _ => rfl, fun i h1 h2 => absurd h2 (by omega), fun b o h _ => ?_, fun b h => ?_, fun b o h _ => ?_⟩
    · obtain ⟨h1, h2⟩ := un b o h
      rw [upd_ne h2]; exact h1
    · by_cases e : b = D
      · rw [e, upd_same]; simp
      · rw [upd_ne e]; simpa [if_neg e] using h
    · obtain ⟨h1, h2⟩ := un b o h
      rw [upd_ne h2]; exact h1
/-- a step from a heap without D goes on over a change at D -/
theorem Step.over {m1 : Nat → Addr} {N1 N : Nat} {H1 : Hp} {D : Addr} {u : HO} (s : Step m1 N1 H1 m N H) (hD : H1 D = none) (hd : ∀ i, i < N1 → m1 i ≠ D) : Step m1 N1 H1 m N (upd H D u) := by
  refine ⟨s.le, s.same, s.new, fun b o h k => ?_, fun b h => ?_, fun b o h q => ?_⟩
  · rw [upd_ne (ne_of_none h hD)]; exact s.keep b o h k
  · by_cases e : b = D
    · rw [e, upd_same]; simp
    · rw [upd_ne e]; exact s.dom b h
  · rw [upd_ne (ne_of_none h hD)]; exact s.imm b o h q
abbrev PTsA (X : Cx) (c : Ct) (W : WX) (ifs : List Expr) (d : DT) : Prop := PTs X ifs (tG rB c W d)
theorem ptsa_nil : PTsA X c W [] dYes := ⟨fun pins s σ H Q I ⟨F, m, st, S, hc, R, P⟩ => pts_nil.run pins s σ H Q I (PostE.here P R rfl)⟩
theorem ptsa_one {e : Expr} {d : DT} (h : PTA X c W e d) : PTsA X c W [e] d := pts_one h
theorem comp_ok (r : Bool) {vs is : List Nat} {di : DA} {dg : DG} {dt : DT} {de : DE} (his : ∀ i ∈ is, i ∈ vs) {σ : St} {H : Hp} {Q : VK} :
    tG rV c W (dComp r vs di dg dt de) σ H Q → tLc (tI c W di) (tgG c is dg) (tG rB c W0 dt) (tG rV c W0 de) vs σ H Q := fun ⟨F, m, s, S, hc, R, P⟩ => by
  refine ⟨F, m, s, S, hc, R, ?_⟩
  have P2 : PostI c W F m s.length H S σ (di S s) fun J H1 => ∃ m1 st1 xs G, di S s = .ok xs st1 ∧ Step m s.length H m1 st1.length H1 ∧ Rel F m1 st1 S σ H1 ∧ WalkA c J xs G ∧ G F m1 st1.length H1 ∧
      PostE rV W F m1 st1.length H1 S σ ((noEx (compL dg dt de (wipeS S vs) xs st1)).then fun ys st2 => bif Nat.ble ys.length 1000000 then newL r ys st2 else .bad) Q := by
    unfold dComp at P
    cases e : di S s with
    | ok xs st1 => rw [e] at P; exact fun m1 H1 J G a b w g => ⟨m1, st1, xs, G, rfl, a, b, w, g, PostE.shift a P⟩
    | ex x st1 => rw [e] at P; exact P
    | bad => rw [e] at P; exact P
  have imp : ∀ {rr : Res (List AV)} {T T' : It → Hp → Prop}, PostI c W F m s.length H S σ rr T → (∀ J H, T J H → T' J H) → PostI c W F m s.length H S σ rr T' := fun {rr T T'} h f => by
    cases rr with
    | ok x st' => exact fun m' H' J G a b w g => f _ _ (h m' H' J G a b w g)
    | ex e st' => exact h
    | bad => exact h
  refine imp P2 fun J H1 ⟨m1, s1, xs, G, _, a1, R1, w, g1, P1⟩ D hD => ?_
  -- the whole comes to a list
  obtain ⟨tot, sF, eF⟩ : ∃ tot sF, compL dg dt de (wipeS S vs) xs s1 = .ok tot sF := by
    cases e : compL dg dt de (wipeS S vs) xs s1 with
    | ok tot sF => exact ⟨tot, sF, rfl⟩
    | ex x st => rw [e] at P1; exact P1.elim
    | bad => rw [e] at P1; exact P1.elim
  rw [eF] at P1
  have P1 : PostE rV W F m1 s1.length H1 S σ (bif Nat.ble tot.length 1000000 then newL r tot sF else .bad) Q := P1
  cases hb : Nat.ble tot.length 1000000 with
  | false => rw [hb] at P1; exact P1.elim
  | true =>
  rw [hb] at P1
  simp only [cond_true] at P1
  have h0 : F.H0 D = none := R1.h0 hD
  have hz : ¬ F.Z D := fun z => (R1.zd D z).1 hD
  have nD := R1.nb hD
  have line : tot.length ≤ 1000000 := Nat.le_of_ble_eq_true hb
  let Inv : Nat → Hp → Prop := fun i H => i ≤ xs.length ∧ ∃ m st accs acc ys, Step m1 s1.length H1 m st.length H ∧ Rel (F.av D) m st S σ H ∧ G (F.av D) m st.length H ∧ H D = some (.lst acc) ∧ AVls0 (F.av D) m st.length H accs acc ∧
    compL dg dt de (wipeS S vs) (xs.drop i) st = .ok ys sF ∧ tot = accs ++ ys
  refine ⟨fun i n H => n = xs.length - i ∧ Inv i H, ⟨_, rfl, Nat.zero_le _, m1, s1, [], [], tot, Step.of (same_upd hD), R1.av hD (same_upd hD) (by rw [upd_same]; simp), w.stay _ _ _ _ _ _ _ (Step.of (same_upd hD)) (w.av F m1 s1.length H1 D hD g1), upd_same, .nil, eF, rfl⟩, ?_⟩
  rintro i n H2 ⟨rfl, hi, m2, s2, accs, acc, ys, st2, R2, g2, hD2, ra, ec, et⟩
  by_cases hlt : i < xs.length
  · have ex : xs[i]? = some xs[i] := List.getElem?_eq_getElem hlt
    refine .inr ⟨w.go (F.av D) m2 s2 S σ H2 i _ hc R2 g2 ex, Inv (i + 1), fun H' q => ⟨xs.length - (i + 1), by omega, rfl, q⟩, fun v H3 y => ?_⟩
    obtain ⟨s3, r3⟩ := w.yld (F.av D) m2 s2 S σ H2 i _ v H3 hc R2 g2 ex y
    have R3 := R2.same s3
    have g3 := w.stay _ _ _ _ _ _ _ (Step.of (m := m2) (N := s2.length) s3) g2
    rw [List.drop_eq_getElem_cons hlt] at ec
    refine ⟨F.av D, m2, s2, wipeS S vs, xs[i], hc, R3.wipe vs, r3, ?_⟩
    cases q : dg xs[i] (wipeS S vs) with
    | none => simp only [compL, q] at ec; cases ec
    | some S4 =>
      simp only [compL, q] at ec
      refine fun σ4 R4 o4 => ⟨wipe_same o4 his, F.av D, m2, s2, S4, hc, R4, ?_⟩
      cases q2 : dt S4 s2 with
      | ex x st => rw [q2] at ec; cases ec
      | bad => rw [q2] at ec; cases ec
      | ok k st4 =>
        rw [q2] at ec
        refine fun m5 k' H5 a5 R5 r5 => ?_
        have r5 : k = k' := r5
        subst r5
        have ec : (bif k then (de S4 st4).then fun y st2 => (compL dg dt de (wipeS S vs) (xs.drop (i + 1)) st2).then fun ys st3 => .ok (y :: ys) st3 else compL dg dt de (wipeS S vs) (xs.drop (i + 1)) st4) = .ok ys sF := ec
        have a25 := (Step.of (m := m2) (N := s2.length) s3).trans a5
        have base : ∀ {m' : Nat → Addr} {st' : Store} {σ' : St} {S' : Slots} {H' : Hp}, Step m2 s2.length H2 m' st'.length H' → Rel (F.av D) m' st' S' σ' H' → Rel (F.av D) m' st' S σ H' := fun {m' st' σ' S' H'} a R' => R'.slots R2.len fun j x e => by
          obtain ⟨v, h1, h2⟩ := R2.slo j x e
          exact ⟨v, h1, AVal.step a h2⟩
        have keepD : ∀ {m' : Nat → Addr} {N' : Nat} {H' : Hp}, Step m2 s2.length H2 m' N' H' → H' D = some (.lst acc) := fun a => a.keep D _ hD2 (R2.zd D (.inr rfl)).2
        cases k with
        | false =>
          refine iteF ?_
          exact ⟨hlt, m5, st4, accs, acc, ys, st2.trans a25, base a25 R5, w.stay _ _ _ _ _ _ _ a25 g2, keepD a25, AVls0.step a25 ra, ec, et⟩
        | true =>
          refine iteT ?_
          simp only [cond_true] at ec
          refine ⟨F.av D, m5, st4, S4, hc, R5, ?_⟩
          cases q3 : de S4 st4 with
          | ex x st => rw [q3] at ec; cases ec
          | bad => rw [q3] at ec; cases ec
          | ok y st5 =>
            rw [q3] at ec
            refine fun m6 u H6 a6 R6 r6 => ?_
            have a26 := a25.trans a6
            have ec : ((compL dg dt de (wipeS S vs) (xs.drop (i + 1)) st5).then fun ys st3 => .ok (y :: ys) st3) = .ok ys sF := ec
            cases q4 : compL dg dt de (wipeS S vs) (xs.drop (i + 1)) st5 with
            | ex x st => rw [q4] at ec; cases ec
            | bad => rw [q4] at ec; cases ec
            | ok ys' st6 =>
              rw [q4] at ec
              have ec : Res.ok (y :: ys') st6 = .ok ys sF := ec
              cases ec
              have hD6 := keepD a26
              have rb := base a26 R6
              obtain ⟨Z1, Z2, Z3⟩ := Rel.zset (acc' := acc ++ [u]) rb (.inr rfl) h0 hD6
              have la : acc.length = accs.length := (Paired.length ra).symm
              have lt : tot.length = accs.length + (ys'.length + 1) := by rw [et]; simp
              refine ⟨acc, hD6, by rw [la]; exact Nat.lt_of_lt_of_le (show accs.length < 1000001 by omega) (by decide), hlt, m6, st5, accs ++ [y], acc ++ [u], ys', (st2.trans a26).over hD nD, Z1, ?_, upd_same, pairedAppend (Z3 (AVls0.step a26 ra)) (Z3 (.cons r6.zero .nil)), q4, by rw [et]; simp⟩
              exact w.over (F.av D) m6 st5.length H6 D acc (acc ++ [u]) (.inr rfl) hD6 (w.stay _ _ _ _ _ _ _ a26 g2)
  · have : i = xs.length := by omega
    subst this
    rw [List.drop_length] at ec
    have ec : Res.ok [] s2 = .ok ys sF := ec
    cases ec
    rw [List.append_nil] at et
    subst et
    refine .inl ⟨w.stop (F.av D) m2 sF S σ H2 hc R2 g2, ?_⟩
    unfold newL at P1
    cases r with
    | false =>
      simp only [cond_false] at P1
      cases e : toPs tot with
      | none => rw [e] at P1; exact P1.elim
      | some ps =>
        rw [e] at P1
        have rv := toPs_ok ra e
        refine P1 m2 _ H2 st2 R2.unav (.v (.lst hD2 ?_ (Vls.ground (fun t b l _ => ⟨l.1, fun z => l.2.1 (.inl z), l.2.2⟩) rv)) fun _ => ⟨true, ps, D, acc, rfl, rfl, h0, hD2, Vls.unav rv⟩)
        exact lw_true.mpr ⟨F.hA D h0, hz, (R2.zd D (.inr rfl)).2⟩
    | true =>
      simp only [cond_true] at P1
      obtain ⟨m', h1, h2, R'⟩ := Rel.adopt R2 hD2 h0 hz ra
      have := P1 m' (.ref (m' sF.length)) H2 ⟨by have := st2.le; simp; omega, fun i hi => (h1 i (Nat.lt_of_lt_of_le hi st2.le)).trans (st2.same i hi), fun i h3 h4 => ?_, st2.keep, st2.dom, st2.imm⟩ R' (.ref (by simp))
      · rw [h2] at this; exact this
      · have hl : (sF ++ [AO.lst (tot.map strip)]).length = sF.length + 1 := by simp
        rw [hl] at h4
        by_cases q : i < sF.length
        · rw [h1 i q]; exact st2.new i h3 q
        · have : i = sF.length := by omega
          subst this; rw [h2]; exact hD
theorem pea_comp (r : Bool) {elt tg iter : Expr} {ifs : List Expr} {scope : Scope} {own : List (Str × Nat)} {is : List Nat} {pos : Pos} {di : DA} {dg : DG} {dt : DT} {de : DE} (cn : Cn X c) (hi : PIA X c W tg iter di) (ok : BlkOk X.N X.env.scope scope own) (his : ∀ i ∈ is, i ∈ own.map (·.2))
    (hg : ∀ (s : Shared) (H : Hp) (C : Addr) (cl : List (Str × Addr)) (fp : List Addr), PGA (X.blk s H scope (compEnvC scope cl C X.env) fp) c is tg dg) (ht : ∀ (s : Shared) (H : Hp) (C : Addr) (cl : List (Str × Addr)) (fp : List Addr), PTsA (X.blk s H scope (compEnvC scope cl C X.env) fp) c W0 ifs dt)
    (he : ∀ (s : Shared) (H : Hp) (C : Addr) (cl : List (Str × Addr)) (fp : List Addr), PEA (X.blk s H scope (compEnvC scope cl C X.env) fp) c W0 elt de) (hs : ∀ x, foldedSetIterable iter X.env x = pure x := by intro _; rfl) :
    PEA X c W (.ListComp elt [⟨tg, iter, ifs, 0⟩] scope pos) (dComp r (own.map (·.2)) di dg dt de) := (pe_lc cn.calm cn.nd hi ok hg ht he hs).imp fun _ _ _ => comp_ok r his
/-- y = [..] on one line, y a local that no block captures -/
theorem psa_setLc (r : Bool) {i : Nat} {y : Str} {py spos : Pos} {elt tg iter : Expr} {ifs : List Expr} {scope : Scope} {own : List (Str × Nat)} {is : List Nat} {pos : Pos} {di : DA} {dg : DG} {dt : DT} {de : DE} (cn : Cn X c) (hi : PIA X c W tg iter di) (ok : BlkOk X.N X.env.scope scope own) (his : ∀ i ∈ is, i ∈ own.map (·.2))
    (hg : ∀ (s : Shared) (H : Hp) (C : Addr) (cl : List (Str × Addr)) (fp : List Addr), PGA (X.blk s H scope (compEnvC scope cl C X.env) fp) c is tg dg) (ht : ∀ (s : Shared) (H : Hp) (C : Addr) (cl : List (Str × Addr)) (fp : List Addr), PTsA (X.blk s H scope (compEnvC scope cl C X.env) fp) c W0 ifs dt)
    (he : ∀ (s : Shared) (H : Hp) (C : Addr) (cl : List (Str × Addr)) (fp : List Addr), PEA (X.blk s H scope (compEnvC scope cl C X.env) fp) c W0 elt de)
    (hsw : swapsWith (.ListComp elt [⟨tg, iter, ifs, 0⟩] scope pos) (some (.Name y py)) spos.line X.env = pure true) (hy : X.N[i]? = some y := by rfl) (hyl : X.env.scope.names.lookup y = some .local := by rfl) (hs : ∀ x, foldedSetIterable iter X.env x = pure x := by intro _; rfl) :
    PSA X c W (.Assign [.Name y py] (.ListComp elt [⟨tg, iter, ifs, 0⟩] scope pos) spos) (dSet i (dComp r (own.map (·.2)) di dg dt de)) := (ps_setLc cn.calm cn.nd hy hyl hsw hi ok hg ht he hs).imp fun D σ H ⟨F, m, s, S, hc, R, P⟩ =>
  comp_ok r his ⟨F, m, s, S, hc, R, (PostS.bind P).imp fun v H1 ⟨m1, st1, x, _, a, b, rx, P1⟩ => P1 m1 _ H1 Step.refl (b.slot rx)⟩
end
end A

/-! The A-layer, part 7: isinstance. -/
namespace A
open PySem PySem.Spec PyProof.Rows L2

/-- a class: a built-in one, an own one -/
inductive Ty where
  | b (n : String)
  | o (C : Nat)
  deriving DecidableEq
def Ty.val (c : Ct) : Ty → Value
  | .b n => .type n
  | .o C => .ref (c.ca C)
def tyP : PV → Option Ty
  | .non => some (.b "NoneType")
  | .bl _ => some (.b "bool")
  | .int _ => some (.b "int")
  | .str _ => some (.b "str")
  | .tup _ => some (.b "tuple")
  | .lst _ _ => some (.b "list")
  | .scr _ => some (.b "list")
  | .dct _ _ _ => some (.b "dict")
  | .obj _ C _ _ => some (.o C)
  | _ => none
def tyA (st : Store) : AV → Option Ty
  | .v p _ => tyP p
  | .ref n => match st[n]? with
    | some (.lst _) => some (.b "list")
    | some (.dK _) => some (.b "dict")
    | some (.dT _) => some (.b "dict")
    | some (.ins C _) => some (.o C)
    | none => none
/-- what isinstance asks of a class -/
structure InsOk (K : PySem.W.Frag) (C : Addr) : Prop where
  cl : Cls K C
  ha : PySem.W.findIn K (.ref C) "__class__" = some (some (.builtin "object.__class__"))
  hn : PySem.W.specialIn K (.builtin "object.__class__") "__get__" = some (some (.builtin "getset_descriptor.__get__"))
  ht : PySem.W.takesIn K (.builtin "object.__class__") = some true
  hm : PySem.W.mroIn K C (.type "object") = some true
/-- tb: which class is under which; cs: the own classes of values -/
structure KitOk (c : Ct) (tb : Ty → Ty → Option Bool) (cs : List Nat) : Prop where
  one : ∀ t u b, tb t u = some b → PySem.W.kitOne c.K (t.val c) (u.val c) = some b
  ins : ∀ C, C ∈ cs → InsOk c.K (c.ca C)
def okTy (cs : List Nat) : Ty → Bool
  | .b _ => true
  | .o C => cs.contains C
def clsTy : PV → Option Ty
  | .ty n => some (.b n)
  | .cls C => some (.o C)
  | _ => none
/-- under one of them -/
def anyTy (tb : Ty → Ty → Option Bool) (t : Ty) : List PV → Option Bool
  | [] => some false
  | p :: r => match clsTy p with
    | some u => match tb t u with
      | some true => match anyTy tb t r with
        | some _ => some true
        | none => none
      | some false => anyTy tb t r
      | none => none
    | none => none
def fIsi (tb : Ty → Ty → Option Bool) (cs : List Nat) : List AV → Store → Res AV := fun xs st => match xs with
  | [x, .v p _] => match tyA st x, clsTy p with
    | some t, some u => bif okTy cs t then (match tb t u with
      | some b => .ok (.v (.bl b) false) st
      | none => .bad) else .bad
    | _, _ => .bad
  | _ => .bad
section
variable {X : Cx} {c : Ct} {tb : Ty → Ty → Option Bool} {cs : List Nat} {F : Fix} {m : Nat → Addr} {H : Hp} {S : Slots} {σ : St} {st : Store}
theorem tyA_ok (kit : KitOk c tb cs) (hc : F.c = c) (R : Rel F m st S σ H) {x : AV} {v : V} {t : Ty} (h : AVal0 F m st.length H x v) (e : tyA st x = some t) (ok : okTy cs t = true) : TyX c.K H v (t.val c) := by
  have insT : ∀ {C : Nat} {a dx : Addr} {fs : List (Str × V)}, okTy cs (.o C) = true → H a = some (.ins (c.ca C) dx fs) → TyX c.K H (.ref a) (.ref (c.ca C)) := fun {C a dx fs} ok h => by
    have i := kit.ins C (by simpa [okTy] using ok)
    exact .base (.ins h i.cl i.ha i.hn i.ht i.hm)
  cases h with
  | v h =>
    cases h with
    | non => cases e; exact .base .non
    | bl b => cases e; exact .base (.bl b)
    | int b => cases e; exact .base (.int b)
    | str b => cases e; exact .base (.str b)
    | tup h r =>
      cases e
      rw [hc] at h
      rcases h with h | ⟨o, its, n, hk, hcl, _⟩
      · rcases h with h | ⟨o, h⟩
        · exact .base (.tup h)
        · exact .fTuple h
      · exact .kTuple hk hcl
    | lst h l r => cases e; exact .base (.lst h)
    | dct h z l r => cases e; exact .base (.dK h)
    | obj h z l r =>
      cases e
      rw [hc] at h
      exact insT ok h
    | scr h =>
      cases e
      rw [hc] at h
      rcases h with ⟨o, h⟩ | h
      · exact .base (.frz h)
      · rcases h with h | ⟨o, its, n, hk, hcl, _⟩
        · rcases h with h | ⟨o, h⟩ <;> cases h
        · exact .kList hk hcl
    | ty n => cases e
    | cls n => cases e
  | ref hn =>
    rename_i n
    cases q : st[n]? with
    | none => simp only [tyA, q] at e; cases e
    | some o =>
      obtain ⟨u, h1, h2⟩ := R.sto n o q
      cases h2 with
      | lst _ => simp only [tyA, q] at e; cases e; exact .base (.lst h1)
      | dK _ => simp only [tyA, q] at e; cases e; exact .base (.dK h1)
      | dT _ => simp only [tyA, q] at e; cases e; exact .base (.dT h1)
      | ins _ =>
        simp only [tyA, q] at e; cases e
        rw [hc] at h1
        exact insT ok h1
theorem clsTy_ok {L : Bool → Addr → Prop} {p : PV} {v : V} {u : Ty} (h : Val c L H p v) (e : clsTy p = some u) : ClsV v (u.val c) := by
  cases h with
  | ty n => cases e; exact .ty n
  | cls n => cases e; exact .own _
  | _ => cases e
theorem anyTy_ok (kit : KitOk c tb cs) {t : Ty} {L : Bool → Addr → Prop} : ∀ {ps : List PV} {vs : List V} {b : Bool}, Vls c L H ps vs → anyTy tb t ps = some b → ∃ us, Paired ClsV vs us ∧ PySem.W.kitAny c.K (t.val c) us = some b
  | _, _, b, .nil, e => by cases e; exact ⟨[], .nil, rfl⟩
  | p :: ps, v :: vs, b, .cons h r, e => by
    unfold anyTy at e
    cases q : clsTy p with
    | none => rw [q] at e; cases e
    | some u =>
      rw [q] at e
      simp only at e
      cases q2 : tb t u with
      | none => rw [q2] at e; cases e
      | some k =>
        rw [q2] at e
        have one := kit.one t u k q2
        cases k with
        | true =>
          simp only at e
          cases q3 : anyTy tb t ps with
          | none => rw [q3] at e; cases e
          | some b' =>
            rw [q3] at e
            cases e
            obtain ⟨us, h1, h2⟩ := anyTy_ok kit r q3
            exact ⟨u.val c :: us, .cons (clsTy_ok h q) h1, kitAny_cons one (fun z => nomatch z) (fun _ => rfl)⟩
        | false =>
          simp only at e
          obtain ⟨us, h1, h2⟩ := anyTy_ok kit r e
          exact ⟨u.val c :: us, .cons (clsTy_ok h q) h1, kitAny_cons one (fun _ => h2) (fun z => nomatch z)⟩
theorem cr_isi (kit : KitOk c tb cs) : CRok c (rIsi c.K) (fIsi tb cs) := by
  intro W F m st S σ H xs vs Q hc R rx P
  unfold fIsi at P
  split at P
  · rename_i x p fr
    cases rx with
    | cons a r =>
      cases r with
      | cons b r =>
        cases r
        cases e : tyA st x with
        | none => rw [e] at P; exact P.elim
        | some t =>
          rw [e] at P
          cases q2 : clsTy p with
          | none => rw [q2] at P; exact P.elim
          | some u =>
            rw [q2] at P
            simp only at P
            cases q : okTy cs t with
            | false => rw [q] at P; exact P.elim
            | true =>
              rw [q] at P
              simp only [cond_true] at P
              cases q3 : tb t u with
              | none => rw [q3] at P; exact P.elim
              | some k =>
                rw [q3] at P
                cases b with
                | v h _ =>
                  rw [hc] at h
                  exact ⟨_, _, _, _, k, rfl, clsTy_ok h q2, tyA_ok kit hc R a.zero e q, kit.one t u k q3, PostE.here P R (.v (.bl _) fun e => nomatch e)⟩
  · exact P.elim
/-- isinstance(x, (T, ..)) -/
def dIsiT (tb : Ty → Ty → Option Bool) (cs : List Nat) (de : DE) (da : DA) : DE := fun S st => (de S st).then fun x st1 => (da S st1).then fun ys st2 => match tyA st2 x, toPs ys with
  | some t, some ps => bif okTy cs t && Nat.ble ps.length 1000000 then (match anyTy tb t ps with
    | some b => .ok (.v (.bl b) false) st2
    | none => .bad) else .bad
  | _, _ => .bad
theorem pea_isiT {W : WX} {e : Expr} {es : List Expr} {de : DE} {da : DA} {x1 : Nat} {p pos pos2 : Pos} (kit : KitOk c tb cs) (hm : X.mg "isinstance" = none) (he : PEA X c W e de) (ha : PAA X c W es da) (hK : c.K = X.K := by rfl) (hg : Gl X "isinstance" := by rfl)
    (hs : starEach [e, .Tuple es x1 pos2] X.env = (false, eval e X.env) :: starEach [.Tuple es x1 pos2] X.env := by rfl) (hpl : (backTo pos (starEach [.Tuple es x1 pos2] X.env)).any (·.1) = false := by rfl)
    (hs2 : starEach [.Tuple es x1 pos2] X.env = (false, eval (.Tuple es x1 pos2) X.env) :: starEach [] X.env := by rfl) : PEA X c W (.Call (.Name "isinstance" p) [e, .Tuple es x1 pos2] [] pos) (dIsiT tb cs de da) :=
  (pe_callB (r := rIsiT c.K) (by rw [hK]; exact call_isiT) hg hm (by decide +kernel) (pa_cons he (pa_cons (pe_tup ha) pa_nil hs2) hs) (by decide) (by decide) hs hpl).imp fun σ H Q ⟨F, m, s, S, hc, R, P⟩ =>
    ⟨F, m, s, S, hc, R, (PostE.bind P).imp fun v H1 ⟨m1, s1, x, _, a1, R1, r1, P1⟩ =>
      ⟨F, m1, s1, S, hc, R1, (PostE.bind P1).imp fun vs H2 ⟨m2, s2, ys, _, a2, R2, r2, P2⟩ => by
        cases e : tyA s2 x with
        | none => rw [e] at P2; exact P2.elim
        | some t =>
          cases e2 : toPs ys with
          | none => rw [e, e2] at P2; exact P2.elim
          | some ps =>
            rw [e, e2] at P2
            simp only at P2
            cases q : okTy cs t && Nat.ble ps.length 1000000 with
            | false => rw [q] at P2; exact P2.elim
            | true =>
              rw [q] at P2
              simp only [cond_true] at P2
              rw [Bool.and_eq_true] at q
              cases q2 : anyTy tb t ps with
              | none => rw [q2] at P2; exact P2.elim
              | some k =>
                rw [q2] at P2
                have rv := toPs_ok (AVls.zero r2) e2
                refine ⟨by rw [← Vls.length rv]; exact le_line q.2, fun tp hp => ?_⟩
                have sm := same_upd (o := .tup vs) hp
                rw [hc] at rv
                obtain ⟨us, h1, h2⟩ := anyTy_ok kit rv q2
                refine ⟨v, tp, vs, _, us, k, rfl, upd_same, h1, tyA_ok kit hc (R2.same sm) (AVal0.step ((a2.trans (Step.of sm))) r1.zero) e q.1, h2, P2 m2 _ _ (Step.of sm) (R2.same sm) (.v (.bl _) fun e => nomatch e)⟩⟩⟩
/-- a built-in class, an own class as a value -/
theorem pea_ty {W : WX} {x : Str} {pos : Pos} {n : String} (hm : X.mg x = none) (hv : bootBuiltins x = some (.type n)) (hg : Gl X x := by rfl) (hn : x ≠ "__name__" := by decide) (hd : (x == ("__debug__" : Str)) = false := by decide) : PEA X c W (.Name x pos) (dC (.ty n)) :=
  (pe_bltn (v := .ty n) hg hm hv rfl hn hd).imp fun _ _ _ => tC_ok fun _ _ => .ty n
theorem pea_cls {W : WX} {x : Str} {pos : Pos} {C : Nat} (hm : X.mg x = some (.ref (c.ca C))) (hg : Gl X x := by rfl) (hd : (x == ("__debug__" : Str)) = false := by decide) : PEA X c W (.Name x pos) (dC (.cls C)) :=
  (pe_glob (v := .ref (c.ca C)) hg hm rfl hd).imp fun _ _ _ => tC_ok fun _ _ => .cls C
end
end A

/-! The A-layer, part 8: the program's facts, the law's end. -/
namespace A
open PySem PySem.Spec PyProof.Rows L2

/-- what the whole proof leans on: the head's facts -/
structure PF (g : Gd) (fa : List He.Fa) (fn : List He.DefD) : Prop where
  c : He.SaysD fa fn g.c.K
  kin : g.c.K.In g.base
  ns : g.base.Ns mainGlobals g.mg
section
variable {g : Gd} {fa : List He.Fa} {fn : List He.DefD}
theorem PF.glo (T : PF g fa fn) (i : Nat) {x : Str} (h : fa[i]? = some (.glo x) := by rfl) : g.mg x = some (.ref (He.ga g.c.K x)) := He.glo_ok T.kin T.ns (T.c.fact i h)
theorem PF.free (T : PF g fa fn) (i : Nat) {x : Str} (h : fa[i]? = some (.free x) := by rfl) : g.mg x = none := He.free_ok T.kin T.ns (T.c.fact i h)
theorem PF.int (T : PF g fa fn) (i : Nat) {x : Str} {n : Int} (h : fa[i]? = some (.int x n) := by rfl) : ∃ u, g.mg x = some u ∧ RelV (.int n) u := by
  obtain ⟨t, e⟩ := He.int_ok T.kin T.ns (T.c.fact i h)
  exact ⟨_, e, t, rfl⟩
theorem PF.str (T : PF g fa fn) (i : Nat) {x z : Str} (h : fa[i]? = some (.str x z) := by rfl) : ∃ u, g.mg x = some u ∧ RelV (.str z) u := by
  obtain ⟨t, e⟩ := He.str_ok T.kin T.ns (T.c.fact i h)
  exact ⟨_, e, t, rfl⟩
end
theorem pea_globE {X : Cx} {c : Ct} {W : WX} {x : Str} {pos : Pos} {v : V} {p : PV} (h : ∃ u, X.mg x = some u ∧ RelV v u) (hv : ∀ L H, Val c L H p v) (hg : Gl X x := by rfl) (hd : (x == ("__debug__" : Str)) = false := by decide) : PEA X c W (.Name x pos) (dC p) := by
  obtain ⟨u, h1, h2⟩ := h
  exact pea_glob h1 h2 hv hg hd
/-- a pure def stands -/
theorem fnAtP {g : Gd} {x qual : Str} {st : Stmt} {f : Addr} {fd : FuncData} {names ps : List Str} {N n k : Nat} {d : DS} (FF : FunD g.c.K x qual (defArgs st) (defBody st) (defScope st) [] [] f fd) (sc : FnScope names ps (defScope st)) (hN : names.length = N) (hn : ps.length = n)
    (hb : ∀ (kV doc pm : Value) (an : Option Addr) (cdv ct : Value) (us : List Value), us.length = ps.length → bindArgs (PySem.W.fnOf x qual (defArgs st) (defBody st) (defScope st) .none kV doc pm an cdv ct) ⟨us, []⟩ = pure (ps.zip us))
    (body : ∀ e : Entry, Cg (XOf g names qual st f e) g → Takes (XOf g names qual st f e) (WOf e) → Room k (XOf g names qual st f e).A → PSsA (XOf g names qual st f e) g.c (WOf e) (defBody st) d) : FnAt g (k + 1) f n [] (spP g.c n (runP N d)) :=
  ⟨FF.kp, fd, ps, FF.bindsN hb, hn, fnP FF sc hN hn fun e hr => body e (cgOf sc) tkOf hr⟩
theorem fnAtI {g : Gd} {x qual : Str} {st : Stmt} {f : Addr} {fd : FuncData} {names ps : List Str} {N n k : Nat} {d : DS} (FF : FunD g.c.K x qual (defArgs st) (defBody st) (defScope st) [] [] f fd) (sc : FnScope names ps (defScope st)) (hN : names.length = N) (hn : ps.length = n)
    (hb : ∀ (kV doc pm : Value) (an : Option Addr) (cdv ct : Value) (us : List Value), us.length = ps.length → bindArgs (PySem.W.fnOf x qual (defArgs st) (defBody st) (defScope st) .none kV doc pm an cdv ct) ⟨us, []⟩ = pure (ps.zip us))
    (body : ∀ e : Entry, Cg (XOf g names qual st f e) g → Takes (XOf g names qual st f e) (WOf e) → Room k (XOf g names qual st f e).A → PSsA (XOf g names qual st f e) g.c (WOf e) (defBody st) d) : FnAt g (k + 1) f n [] (spI g.c n (runI N d)) :=
  ⟨FF.kp, fd, ps, FF.bindsN hb, hn, fnI FF sc hN hn fun e hr => body e (cgOf sc) tkOf hr⟩
/-- within a comprehension's block -/
theorem Cg.blk {X : Cx} {g : Gd} (h : Cg X g) {s : Shared} {H : Hp} {scope : Scope} {cenv : Env} {fp : List Addr} : Cg (X.blk s H scope cenv fp) g :=
  ⟨h.P, h.w, h.K, h.mg, h.base, h.calm, h.nd, PassesOwn.never, h.stk⟩
theorem Cn.blk {X : Cx} {c : Ct} (h : Cn X c) {s : Shared} {H : Hp} {scope : Scope} {cenv : Env} {fp : List Addr} : Cn (X.blk s H scope cenv fp) c :=
  ⟨h.K, h.calm, h.nd, PassesOwn.never, h.room, h.no, h.tree, h.stk⟩
theorem tk0 {X : Cx} : Takes X W0 := takes0

/-! ### the law's end -/
theorem noSeer_hid {h : Heap} {H : Hp} {a : Addr} {vs : List Value} (ha : h.get? a = some { cls := .type "list", data := .seq vs.toArray }) (hA : ∀ b, H b ≠ none → b = a) (no : h.NoSeer) : (hidT h H).NoSeer := by
  have base_of : ∀ {b : Addr} {o : Obj}, h.get? b = some o → H b = none → (hidT h H).get? b = some o := fun e n => hidT_get e n
  have noA : ∀ {b : Addr} {o : Obj} {es : Array DictEntry} {ep : Nat}, h.get? b = some o → o.data = .dict es ep → H b = none := fun {b o es ep} e d => by
    cases q : H b with
    | none => rfl
    | some u =>
      have e' : b = a := hA b (by rw [q]; simp)
      subst e'
      rw [ha] at e; cases e
      have d' : Data.seq vs.toArray _ = Data.dict es ep := d
      cases d'
  have nsK : ∀ {b : Addr} {m : Str → Option Value}, h.Ns b m → (hidT h H).Ns b m := fun {b m} ⟨o, es, ep, e, d, r⟩ => ⟨o, es, ep, base_of e (noA e d), d, r⟩
  refine ⟨?_, ?_, ?_, ?_⟩
  · obtain ⟨mc, a, b⟩ := no.statics; exact ⟨mc, nsK a, b⟩
  · obtain ⟨mc, a, b⟩ := no.mods; exact ⟨mc, nsK a, b⟩
  · obtain ⟨mc, a, b⟩ := no.imp; exact ⟨mc, nsK a, b⟩
  · obtain ⟨mg, bm, ob, a1, b1, c1, d1, e1⟩ := no.main
    refine ⟨mg, bm, ob, nsK a1, b1, base_of c1 ?_, d1, e1⟩
    cases q : H bm with
    | none => rfl
    | some u =>
      have e' : bm = a := hA bm (by rw [q]; simp)
      subst e'
      rw [ha] at c1; cases c1
      exact absurd d1 (by intro z; injection z with z; exact absurd z (by decide))
/-- L2.law_call, where the promise may lean on NoSeer -/
theorem law_callS {P : Program} {w : World} {K : PySem.W.Frag} {mg mb : Str → Option Value} {CX : CXT} {k : Nat} {fa a : Addr} {sp : Sp} {s₁ : Shared} {vs : List Value} {ns : List Int}
    (no : s₁.heap.NoSeer) (KX : K.In s₁.heap) (hns : s₁.heap.Ns mainGlobals mg) (hb : s₁.heap.Ns builtinsNs mb) (hbb : ∀ x : Str, x ≠ "__name__" → mb x = bootBuiltins x) (hlim : s₁.heap.NoLimit) (hg : s₁.gens = #[])
    (ha : s₁.heap.get? a = some { cls := .type "list", data := .seq vs.toArray }) (hi : IntsAre vs ns) (hl : ns.length ≤ sizeLine) (hr : Room k callerA)
    (F : ∀ base : Heap, base.NoSeer → K.In base → base.Ns mainGlobals mg → ∃ fd ps, Binds K fd ps [] ∧ ps.length = 1 ∧ FnOk P w K mg base CX k fa fd ps sp)
    (hsp : ∀ H : Hp, Only H → ScrAt K H a ns → sp [.ref a] H (fun v _ => v = .bl true) fun _ _ _ => False)
    (hCX : ∀ H e s', CX [] H s₁ (fun _ _ _ => False) e s' → False) :
    codeAny (model P w) callerA (.call (.ref fa) ⟨[.ref a], []⟩) (fun r s' => r = .ok (.ret (.bool true)) ∧ OldK s₁.heap s'.heap ∧ s'.os = s₁.os ∧ AllBare s'.gens) s₁ := by
  have rv := vals_ints hi
  have lenV := hi.length
  have core : ∀ H : Hp, Only H → ScrAt K H a ns → HOk P w H s₁.heap → (∀ b, H b ≠ none → b = a) → (H a ≠ none → K.lookup a = none) →
      codeAny (model P w) callerA (.call (.ref fa) ⟨[.ref a], []⟩) (fun r s' => r = .ok (.ret (.bool true)) ∧ OldK s₁.heap s'.heap ∧ s'.os = s₁.os ∧ AllBare s'.gens) s₁ := by
    intro H hO hS hok hA hK
    have base_of : ∀ {b : Addr} {o : Obj}, s₁.heap.get? b = some o → H b = none → (hidT s₁.heap H).get? b = some o := fun e n => hidT_get e n
    have noA : ∀ {b : Addr} {o : Obj} {es : Array DictEntry} {ep : Nat}, s₁.heap.get? b = some o → o.data = .dict es ep → H b = none := fun {b o es ep} e d => by
      cases q : H b with
      | none => rfl
      | some u =>
        have e' : b = a := hA b (by rw [q]; simp)
        subst e'
        rw [ha] at e; cases e
        have d' : Data.seq vs.toArray _ = Data.dict es ep := d
        cases d'
    have nsK : ∀ {b : Addr} {m : Str → Option Value}, s₁.heap.Ns b m → (hidT s₁.heap H).Ns b m := fun {b m} ⟨o, es, ep, e, d, r⟩ => ⟨o, es, ep, base_of e (noA e d), d, r⟩
    have hKb : K.In (hidT s₁.heap H) := fun b o e => base_of (KX b o e) (by
      cases q : H b with
      | none => rfl
      | some u =>
        have e' : b = a := hA b (by rw [q]; simp)
        subst e'
        rw [hK (by rw [q]; simp)] at e; cases e)
    have hM : Mod K mg (hidT s₁.heap H) := ⟨hKb, nsK hns, ⟨mb, nsK hb, hbb⟩, let ⟨mc, h1, h2⟩ := hlim; ⟨mc, nsK h1, h2⟩⟩
    have e0 : Env0 P w K mg (hidT s₁.heap H) callerA [] s₁ H := ⟨rfl, hM, fun b o e => of_hidT e, Nat.le_of_eq (hidT_size _ _), trivial, fun b hb => absurd (show b ∈ ([] : List Addr) from hb) (by simp), hok, .of_eq hg⟩
    obtain ⟨fd, ps, hbi, hpl, FF⟩ := F _ (noSeer_hid ha hA no) hKb (nsK hns)
    match ps, hpl, hbi, FF with
    | [x], _, hbi, FF =>
    refine codeAny_mono (FF.run callerA [] s₁ H ⟨[.ref a], []⟩ [.ref a] [.ref a] _ _ hr e0 (hbi s₁ [.ref a] KX rfl) (.cons rfl .nil) (hsp H hO hS)) fun r s' h => ?_
    cases r with
    | error e => exact (hCX H e s' h).elim
    | ok fl =>
      cases fl with
      | next => exact False.elim h
      | brk => exact False.elim h
      | cont => exact False.elim h
      | ret u =>
        obtain ⟨v, H', os, bare, un, hok', r', q⟩ := h
        have q' : v = .bl true := q
        subst q'
        obtain rfl : u = Value.bool true := r'
        refine ⟨rfl, OldK.of_keep fun b o e => ?_, os, bare⟩
        cases q : H b with
        | none => exact un.keep b o e q (by intro z; exact absurd (show b ∈ ([] : List Addr) from z) (by simp)) (by simp)
        | some u =>
          rcases hO b with z | ⟨ob, xs, z⟩
          · rw [q] at z; cases z
          · have z2 := un.frzs b ob _ z
            obtain ⟨e1, _⟩ := hok b _ z
            obtain ⟨e2, _⟩ := hok' b _ z2
            rw [e] at e1; cases e1
            exact e2
  cases hk : K.lookup a with
  | some o =>
    have e := KX a o hk
    rw [ha] at e
    cases e
    refine core (fun _ => none) (fun _ => .inl rfl) (.inr (.inr ⟨_, vs.toArray, _, hk, rfl, rfl, rfl, by rw [List.size_toArray, lenV]; exact hl, by simpa using rv⟩)) (fun b u z => by have z' : (none : Option HO) = some u := z; cases z') (fun b z => absurd rfl z) fun z => absurd rfl z
  | none =>
    refine core (fun b => if b = a then some (.frz { cls := .type "list", data := .seq vs.toArray } (.lst (ns.map V.int))) else none) (fun b => ?_) (.inl ⟨{ cls := .type "list", data := .seq vs.toArray }, if_pos rfl⟩) (fun b u z => ?_) (fun b z => ?_) fun _ => hk
    · by_cases hb : b = a
      · exact .inr ⟨_, _, if_pos hb⟩
      · exact .inl (if_neg hb)
    · by_cases hb : b = a
      · have z' := (if_pos hb).symm.trans z
        cases z'
        subst hb
        exact ⟨ha, by rw [List.length_map]; exact hl, vs, _, rv, ha⟩
      · have z' := (if_neg hb).symm.trans z
        cases z'
    · by_cases hb : b = a
      · exact hb
      · exact absurd (if_neg hb) z
/-- the law's promise from its denotation -/
theorem spP_law {c : Ct} {den : PDen} {a : Addr} {ns : List Int} {H : Hp} (hS : ScrAt c.K H a ns) (h : ∃ fr, den [.scr ns] = .ok (.bl true) fr) : spP c 1 den [.ref a] H (fun v _ => v = .bl true) fun _ _ _ => False := by
  obtain ⟨fr, e⟩ := h
  refine ⟨rfl, fun _ => True, fun _ => True, [.scr ns], fun _ _ => trivial, .cons (.scr hS) .nil, ?_⟩
  rw [e]
  intro v H' _ hv _
  cases hv
  rfl
theorem walk_ofS {l : PySem.W.OpenLaw} {n k : Nat} {q : Program} {loose : List Str} {XP : (Str → Option Value) → Heap → Prop} {YP : World → Heap → Prop} {d : DefRec} {den : PDen}
    (hn : l.most = some n) (hn2 : n ≤ sizeLine) (hdf : d.params.defaults = []) (hr : Room k callerA) (hi : importsNone q = true) (ht : l.prog.given.tree = none)
    (hden : ∀ ns : List Int, ns.length ≤ n → ∃ fr, den [.scr ns] = .ok (.bl true) fr)
    (F : ∀ (w : World) (mg : Str → Option Value) (fa : Addr) (h : Heap), YP w h → h.Ns mainGlobals mg → mg d.name = some (.ref fa) →
      ∃ c : Ct, c.K.In h ∧ ∀ (base : Heap) (no : base.NoSeer), c.K.In base → base.Ns mainGlobals mg → FnAt (⟨l.prog, w, c, mg, base, no, ht⟩ : Gd) k fa 1 [] (spP c 1 den)) :
    PySem.W.WalkO q loose XP YP l.row.toRowW d [] (fun f vs => PySem.call f vs) := by
  refine Att.attach_call hn hdf fun w s₀ s₁ mg mb fa o pm cd doc a vs ns G Y ho hd hcd hmg hobj hints hlen hg => ?_
  obtain ⟨c, KX, hF⟩ := F w mg fa _ Y G.T.g hmg
  refine law_callS (CX := L2.CX l.prog w) (sp := spP c 1 den) (k := k) (K := c.K) (G.T.seer hi) KX G.T.g G.T.b G.T.builtins G.T.nolimit hg hobj hints (Nat.le_trans hlen hn2) hr (fun base no kb nb => by
    obtain ⟨_, fd, ps, hb, hl, h⟩ := hF base no kb nb
    exact ⟨fd, ps, hb, hl, h⟩) (fun H hO hS => spP_law hS (hden ns hlen)) fun H e s' h => ?_
  obtain ⟨_, _, _, _, _, _, _, _, _, _, _, _, h⟩ := h
  exact h
end A
namespace A
open PySem PySem.Spec PyProof.Rows L2
section
variable {X : Cx} {c : Ct}
theorem op_eqC (cn : Cn X c) : OpR X (compareOp .Eq) (rEqD X.K) := op_eqD (by have := cn.room.un; omega)
theorem op_neC (cn : Cn X c) : OpR X (compareOp .NotEq) (rNeD X.K) := op_neD (by have := cn.room.un; omega)
theorem op_inC (cn : Cn X c) : OpR X (compareOp .In) (rInD X.K) := op_inD (by have := cn.room.un; omega)
theorem op_notInC (cn : Cn X c) : OpR X (compareOp .NotIn) (rNotInD X.K) := op_notInD (by have := cn.room.un; omega)
theorem call_max2C (cn : Cn X c) : CallR X (.builtin "max") (fun xs H Q => ∃ i j, xs = [.int i, .int j] ∧ Q (.int (if j > i then j else i)) H) := call_max2 cn.calm
theorem call_min2C (cn : Cn X c) : CallR X (.builtin "min") (fun xs H Q => ∃ i j, xs = [.int i, .int j] ∧ Q (.int (if j < i then j else i)) H) := call_min2 cn.calm
theorem cr_sumC (cn : Cn X c) : CallR X (.builtin "sum") (rSum X.K) := cr_sum cn.calm
theorem cr_maxC (cn : Cn X c) : CallR X (.builtin "max") (rMax X.K) := cr_max cn.calm
theorem cr_minC (cn : Cn X c) : CallR X (.builtin "min") (rMin X.K) := cr_min cn.calm
theorem pga_nameC {x : Str} {i : Nat} {pos : Pos} (cn : Cn X c) (hi : X.N[i]? = some x := by rfl) (hx : Loc X.env.scope x := by first | exact Or.inl rfl | exact Or.inr rfl) (hf : X.fn x = true ∨ X.env.scope.names.lookup x = some .local := by first | exact .inl rfl | exact .inr rfl) : PGA X c [i] (.Name x pos) (gN i) := pga_name cn.nd hi hx hf
end
/-- a measure of a while: an int's size -/
def natSlot (i : Nat) : Slots → Store → Nat := fun S _ => match S[i]? with
  | some (some (.v (.int k) _)) => k.natAbs + 1
  | _ => 0
end A

/-! The A-layer, part 9: lists of the store walked, changed; parallel and augmented assignment. -/
namespace A
open PySem PySem.Spec PyProof.Rows L2

/-! ### either of two readings -/
theorem _root_.L2.PS.or {X : Cx} {e : Stmt} {t t' : TS} (h : PS X e t) (h' : PS X e t') : PS X e fun D σ H => t D σ H ∨ t' D σ H := ⟨fun pins s σ H D I hw => hw.elim (h.run pins s σ H D I) (h'.run pins s σ H D I)⟩
theorem _root_.L2.PE.or {X : Cx} {e : Expr} {t t' : TE} (h : PE X e t) (h' : PE X e t') : PE X e fun σ H Q => t σ H Q ∨ t' σ H Q := ⟨fun pins s σ H Q I hw => hw.elim (h.run pins s σ H Q I) (h'.run pins s σ H Q I)⟩

/-! ### a place of the store as a list -/
def lstAt (st : Store) (n : Nat) : Option (List AV) := match st[n]? with
  | some (.lst xs) => some xs
  | _ => none
section
variable {F : Fix} {m : Nat → Addr} {N : Nat} {H : Hp} {S : Slots} {σ : St} {st : Store} {c : Ct}
theorem lstAt_ok (R : Rel F m st S σ H) {n : Nat} {xs : List AV} (e : lstAt st n = some xs) : n < st.length ∧ ∃ vs, H (m n) = some (.lst vs) ∧ AVls0 F m st.length H xs vs := by
  unfold lstAt at e
  split at e
  · rename_i ys h
    cases e
    obtain ⟨u, h1, h2⟩ := R.sto n _ h
    cases h2 with
    | lst h2 => exact ⟨(List.getElem?_eq_some_iff.mp h).1, _, h1, h2⟩
  · cases e
theorem pairedGet {α β : Type} {P : α → β → Prop} : ∀ {xs : List α} {vs : List β} {i : Nat} {x : α}, Paired P xs vs → xs[i]? = some x → ∃ v, vs[i]? = some v ∧ P x v
  | _, _, i, x, .cons h r, e => by
    cases i with
    | zero => cases e; exact ⟨_, rfl, h⟩
    | succ i => exact pairedGet (i := i) r e
theorem pairedSet {α β : Type} {P : α → β → Prop} {x : α} {v : β} (h : P x v) : ∀ (n : Nat) {xs : List α} {vs : List β}, Paired P xs vs → Paired P (xs.set n x) (vs.set n v)
  | _, _, _, .nil => .nil
  | 0, _, _, .cons _ r => .cons h r
  | n + 1, _, _, .cons a r => .cons a (pairedSet h n r)
theorem pairedErase {α β : Type} {P : α → β → Prop} : ∀ (n : Nat) {xs : List α} {vs : List β}, Paired P xs vs → Paired P (xs.eraseIdx n) (vs.eraseIdx n)
  | _, _, _, .nil => .nil
  | 0, _, _, .cons _ r => r
  | n + 1, _, _, .cons a r => .cons a (pairedErase n r)
theorem pairedRev {α β : Type} {P : α → β → Prop} : ∀ {xs : List α} {vs : List β}, Paired P xs vs → Paired P xs.reverse vs.reverse
  | _, _, .nil => .nil
  | _, _, .cons a r => by
    rw [List.reverse_cons, List.reverse_cons]
    exact pairedAppend (pairedRev r) (.cons a .nil)
theorem AVal0.strip0 {x : AV} {v : V} (h : AVal0 F m N H x v) : AVal0 F m N H (A.strip x) v := h.strip.zero
end

/-! ### for over a list of the store -/
section
variable {X : Cx} {c : Ct} {W : WX} {pos : Pos}
def forR (n : Nat) (tg : DG) (b : DS) : Nat → Nat → DS
  | 0, _, _, _ => .bad
  | k + 1, i, S, st => match lstAt st n with
    | none => .bad
    | some xs => match xs[i]? with
      | none => .nx S st
      | some x => match tg (A.strip x) S with
        | none => .bad
        | some S1 => match b S1 st with
          | .nx S' st' => forR n tg b k (i + 1) S' st'
          | .ct S' st' => forR n tg b k (i + 1) S' st'
          | .bk S' st' => .nx S' st'
          | r => r
/-- how many turns at most -/
def turnsAt (st : Store) (n : Nat) : Nat := match lstAt st n with
  | some xs => xs.length + 1
  | none => 0
def dForE (de : DE) (tg : DG) (b : DS) : DS := fun S st => (de S st).flow S fun x st1 => match x with
  | .ref n => forR n tg b (turnsAt st1 n) 0 S st1
  | .v p fr => match itemsV (.v p fr) with
    | some xs => forL tg b xs S st1
    | none => .bad
theorem psa_forE (cn : Cn X c) {is : List Nat} {tg iter : Expr} {body : List Stmt} {de : DE} {dg : DG} {db : DS} (he : PEA X c W iter de) (hg : PGA X c is tg dg) (hb : PSsA X c W body db)
    (hs : ∀ x, foldedSetIterable iter X.env x = pure x := by intro _; rfl) : PSA X c W (.For tg iter body [] pos) (dForE de dg db) := by
  refine ((psa_for cn (pia_seq cn.K he) hg hb hs).or (ps_for cn.pas cn.calm (pi_list he) hg hb hs)).imp fun D σ H ⟨F, m, s, S, hc, R, P⟩ => ?_
  cases e : de S s with
  | ex x st1 => refine .inl ⟨F, m, s, S, hc, R, ?_⟩; unfold dFor dItem; unfold dForE at P; rw [e] at P ⊢; exact P
  | bad => unfold dForE at P; rw [e] at P; exact P.elim
  | ok x st1 =>
    cases x with
    | v p fr =>
      refine .inl ⟨F, m, s, S, hc, R, ?_⟩
      unfold dFor dItem; unfold dForE at P; rw [e] at P ⊢
      have P : PostS W F m s.length H (match itemsV (.v p fr) with
        | some xs => forL dg db xs S st1
        | none => .bad) D := P
      cases q : itemsV (.v p fr) with
      | none => rw [q] at P; exact P.elim
      | some xs => rw [q] at P; simp only [Res.then, Res.flow, q]; exact P
    | ref n =>
      refine .inr ⟨F, m, s, S, hc, R, ?_⟩
      rw [e]
      unfold dForE at P; rw [e] at P
      have P : PostS W F m s.length H (forR n dg db (turnsAt st1 n) 0 S st1) D := P
      intro m1 v H1 a1 R1 r1
      cases r1 with
      | ref hn =>
      have P1 := PostS.shift a1 P
      -- the list stands at the start
      have hl : ∃ xs, lstAt st1 n = some xs := by
        cases q : lstAt st1 n with
        | some xs => exact ⟨xs, rfl⟩
        | none => unfold turnsAt at P1; rw [q] at P1; exact P1.elim
      obtain ⟨xs, el⟩ := hl
      obtain ⟨_, vs, hv, _⟩ := lstAt_ok R1 el
      refine ⟨m1 n, rfl, ⟨vs, SqL.of hv⟩, ?_⟩
      refine ⟨fun i k σ H => ∃ m st S, Rel F m st S σ H ∧ n < st.length ∧ m n = m1 n ∧ PostS W F m st.length H (forR n dg db k i S st) D, ⟨turnsAt st1 n, m1, st1, S, R1, hn, rfl, P1⟩, ?_⟩
      rintro i k σ2 H2 ⟨m2, s2, S2, R2, hn2, em, P2⟩
      cases k with
      | zero => exact P2.elim
      | succ k =>
        unfold forR at P2
        cases q : lstAt s2 n with
        | none => rw [q] at P2; exact P2.elim
        | some ys =>
          rw [q] at P2
          obtain ⟨_, us, hu, ru⟩ := lstAt_ok R2 q
          rw [em] at hu
          simp only at P2
          cases q2 : ys[i]? with
          | none =>
            rw [q2] at P2
            refine .inl ⟨⟨us, SqL.of hu, ?_⟩, P2 m2 σ2 H2 Step.refl R2⟩
            rw [← Paired.length ru]
            exact List.getElem?_eq_none_iff.mp q2
          | some x =>
            rw [q2] at P2
            obtain ⟨v, ev, rv⟩ := pairedGet ru q2
            refine .inr ⟨⟨us, v, SqL.of hu, ev⟩, fun σ' H' => ∃ m st S, Rel F m st S σ' H' ∧ n < st.length ∧ m n = m1 n ∧ PostS W F m st.length H' (forR n dg db k (i + 1) S st) D, fun σ' H' q => ⟨k, Nat.lt_succ_self k, q⟩, fun v' H3 y => ?_⟩
            obtain ⟨rfl, y⟩ := y
            have := y us (SqL.of hu)
            rw [ev] at this; cases this
            refine ⟨F, m2, s2, S2, A.strip x, hc, R2, rv.strip, ?_⟩
            simp only at P2
            cases q3 : dg (A.strip x) S2 with
            | none => rw [q3] at P2; exact P2
            | some S4 =>
              rw [q3] at P2
              refine fun σ4 R4 _ => ⟨F, m2, s2, S4, hc, R4, ?_⟩
              have nx : ∀ {S' : Slots} {st' : Store}, PostS W F m2 s2.length H3 (forR n dg db k (i + 1) S' st') D → ∀ m' σ' H', Step m2 s2.length H3 m' st'.length H' → Rel F m' st' S' σ' H' → ∃ m st S, Rel F m st S σ' H' ∧ n < st.length ∧ m n = m1 n ∧ PostS W F m st.length H' (forR n dg db k (i + 1) S st) D :=
                fun {S' st'} P m' σ' H' a b => ⟨m', st', S', b, Nat.lt_of_lt_of_le hn2 a.le, (a.same n hn2).trans em, PostS.shift a P⟩
              simp only at P2
              cases e : db S4 s2 with
              | nx S' st' => rw [e] at P2; exact nx P2
              | ct S' st' => rw [e] at P2; exact nx P2
              | bk S' st' => rw [e] at P2; exact P2
              | rt x st' => rw [e] at P2; exact P2
              | ex x S' st' => rw [e] at P2; exact P2
              | bad => rw [e] at P2; exact P2
end

/-! ### a comprehension over a list of the store -/
def compR (n : Nat) (tg : DG) (t : DT) (e : DE) (S0 : Slots) : Nat → Nat → Store → Res (List AV)
  | 0, _, _ => .bad
  | k + 1, i, st => match lstAt st n with
    | none => .bad
    | some xs => match xs[i]? with
      | none => .ok [] st
      | some x => match tg (A.strip x) S0 with
        | none => .bad
        | some S1 => (t S1 st).then fun b st1 => bif b then (e S1 st1).then fun y st2 => (compR n tg t e S0 k (i + 1) st2).then fun ys st3 => .ok (y :: ys) st3 else compR n tg t e S0 k (i + 1) st1
def dCompE (r : Bool) (vs : List Nat) (di : DE) (tg : DG) (t : DT) (e : DE) : DE := fun S st => (di S st).then fun x st1 => match x with
  | .ref n => (noEx (compR n tg t e (wipeS S vs) (turnsAt st1 n) 0 st1)).then fun ys st2 => bif Nat.ble ys.length 1000000 then newL r ys st2 else .bad
  | .v p fr => match itemsV (.v p fr) with
    | some xs => (noEx (compL tg t e (wipeS S vs) xs st1)).then fun ys st2 => bif Nat.ble ys.length 1000000 then newL r ys st2 else .bad
    | none => .bad
section
variable {X : Cx} {c : Ct} {W : WX}
theorem comp_okR (r : Bool) {K : PySem.W.Frag} {vs is : List Nat} {di : DE} {dg : DG} {dt : DT} {de : DE} (his : ∀ i ∈ is, i ∈ vs) {F : Fix} {m : Nat → Addr} {s : Store} {S : Slots} {σ : St} {H : Hp} {Q : VK} (hc : F.c = c) (R : Rel F m s S σ H) {n : Nat} {st1 : Store} (e0 : di S s = .ok (.ref n) st1)
    (P : PostE rV W F m s.length H S σ ((noEx (compR n dg dt de (wipeS S vs) (turnsAt st1 n) 0 st1)).then fun ys st2 => bif Nat.ble ys.length 1000000 then newL r ys st2 else .bad) Q) : tLc (iList K (tG rV c W di)) (tgG c is dg) (tG rB c W0 dt) (tG rV c W0 de) vs σ H Q := by
  refine ⟨F, m, s, S, hc, R, ?_⟩
  rw [e0]
  intro m1 v H1 a1 R1 r1
  cases r1 with
  | ref hn =>
  have P1 := PostE.shift a1 P
  obtain ⟨xs, el⟩ : ∃ xs, lstAt st1 n = some xs := by
    cases q : lstAt st1 n with
    | some xs => exact ⟨xs, rfl⟩
    | none => unfold turnsAt at P1; rw [q] at P1; exact P1.elim
  obtain ⟨_, vs0, hv, _⟩ := lstAt_ok R1 el
  refine ⟨m1 n, rfl, ⟨vs0, SqL.of hv⟩, fun D hD => ?_⟩
  obtain ⟨tot, sF, eF⟩ : ∃ tot sF, compR n dg dt de (wipeS S vs) (turnsAt st1 n) 0 st1 = .ok tot sF := by
    cases e : compR n dg dt de (wipeS S vs) (turnsAt st1 n) 0 st1 with
    | ok tot sF => exact ⟨tot, sF, rfl⟩
    | ex x st => rw [e] at P1; exact P1.elim
    | bad => rw [e] at P1; exact P1.elim
  rw [eF] at P1
  have P1 : PostE rV W F m1 st1.length H1 S σ (bif Nat.ble tot.length 1000000 then newL r tot sF else .bad) Q := P1
  cases hb : Nat.ble tot.length 1000000 with
  | false => rw [hb] at P1; exact P1.elim
  | true =>
  rw [hb] at P1
  simp only [cond_true] at P1
  have h0 : F.H0 D = none := R1.h0 hD
  have hz : ¬ F.Z D := fun z => (R1.zd D z).1 hD
  have nD := R1.nb hD
  have line : tot.length ≤ 1000000 := Nat.le_of_ble_eq_true hb
  let Inv : Nat → Nat → Hp → Prop := fun i k H => ∃ m st accs acc ys, Step m1 st1.length H1 m st.length H ∧ Rel (F.av D) m st S σ H ∧ n < st.length ∧ m n = m1 n ∧ H D = some (.lst acc) ∧ AVls0 (F.av D) m st.length H accs acc ∧
    compR n dg dt de (wipeS S vs) k i st = .ok ys sF ∧ tot = accs ++ ys
  refine ⟨fun i k H => Inv i k H, ⟨turnsAt st1 n, m1, st1, [], [], tot, Step.of (same_upd hD), R1.av hD (same_upd hD) (by rw [upd_same]; simp), hn, rfl, upd_same, .nil, eF, rfl⟩, ?_⟩
  rintro i k H2 ⟨m2, s2, accs, acc, ys, st2, R2, hn2, em, hD2, ra, ec, et⟩
  cases k with
  | zero => cases ec
  | succ k =>
  unfold compR at ec
  cases ql : lstAt s2 n with
  | none => rw [ql] at ec; cases ec
  | some zs =>
  rw [ql] at ec
  simp only at ec
  obtain ⟨_, us, hu, ru⟩ := lstAt_ok R2 ql
  rw [em] at hu
  cases qx : zs[i]? with
  | some x =>
    rw [qx] at ec
    simp only at ec
    obtain ⟨v, ev, rv⟩ := pairedGet ru qx
    refine .inr ⟨⟨us, v, SqL.of hu, ev⟩, Inv (i + 1) k, fun H' q => ⟨k, Nat.lt_succ_self k, q⟩, fun v' H3 y => ?_⟩
    obtain ⟨rfl, y⟩ := y
    have := y us (SqL.of hu)
    rw [ev] at this; cases this
    refine ⟨F.av D, m2, s2, wipeS S vs, A.strip x, hc, R2.wipe vs, rv.strip, ?_⟩
    cases q : dg (A.strip x) (wipeS S vs) with
    | none => rw [q] at ec; cases ec
    | some S4 =>
      rw [q] at ec
      simp only at ec
      refine fun σ4 R4 o4 => ⟨wipe_same o4 his, F.av D, m2, s2, S4, hc, R4, ?_⟩
      cases q2 : dt S4 s2 with
      | ex x st => rw [q2] at ec; cases ec
      | bad => rw [q2] at ec; cases ec
      | ok kk st4 =>
        rw [q2] at ec
        refine fun m5 k' H5 a5 R5 r5 => ?_
        have r5 : kk = k' := r5
        subst r5
        have ec : (bif kk then (de S4 st4).then fun y st2 => (compR n dg dt de (wipeS S vs) k (i + 1) st2).then fun ys st3 => .ok (y :: ys) st3 else compR n dg dt de (wipeS S vs) k (i + 1) st4) = .ok ys sF := ec
        have base : ∀ {m' : Nat → Addr} {st' : Store} {σ' : St} {S' : Slots} {H' : Hp}, Step m2 s2.length H3 m' st'.length H' → Rel (F.av D) m' st' S' σ' H' → Rel (F.av D) m' st' S σ H' := fun {m' st' σ' S' H'} a R' => R'.slots R2.len fun j x e => by
          obtain ⟨v, h1, h2⟩ := R2.slo j x e
          exact ⟨v, h1, AVal.step a h2⟩
        have keepD : ∀ {m' : Nat → Addr} {N' : Nat} {H' : Hp}, Step m2 s2.length H3 m' N' H' → H' D = some (.lst acc) := fun a => a.keep D _ hD2 (R2.zd D (.inr rfl)).2
        cases kk with
        | false =>
          refine iteF ?_
          exact ⟨m5, st4, accs, acc, ys, st2.trans a5, base a5 R5, Nat.lt_of_lt_of_le hn2 a5.le, (a5.same n hn2).trans em, keepD a5, AVls0.step a5 ra, ec, et⟩
        | true =>
          refine iteT ?_
          simp only [cond_true] at ec
          refine ⟨F.av D, m5, st4, S4, hc, R5, ?_⟩
          cases q3 : de S4 st4 with
          | ex x st => rw [q3] at ec; cases ec
          | bad => rw [q3] at ec; cases ec
          | ok y st5 =>
            rw [q3] at ec
            refine fun m6 u H6 a6 R6 r6 => ?_
            have a26 := a5.trans a6
            have ec : ((compR n dg dt de (wipeS S vs) k (i + 1) st5).then fun ys st3 => .ok (y :: ys) st3) = .ok ys sF := ec
            cases q4 : compR n dg dt de (wipeS S vs) k (i + 1) st5 with
            | ex x st => rw [q4] at ec; cases ec
            | bad => rw [q4] at ec; cases ec
            | ok ys' st6 =>
              rw [q4] at ec
              have ec : Res.ok (y :: ys') st6 = .ok ys sF := ec
              cases ec
              have hD6 := keepD a26
              have rb := base a26 R6
              obtain ⟨Z1, Z2, Z3⟩ := Rel.zset (acc' := acc ++ [u]) rb (.inr rfl) h0 hD6
              have la : acc.length = accs.length := (Paired.length ra).symm
              have lt : tot.length = accs.length + (ys'.length + 1) := by rw [et]; simp
              exact ⟨acc, hD6, by rw [la]; exact Nat.lt_of_lt_of_le (show accs.length < 1000001 by omega) (by decide), m6, st5, accs ++ [y], acc ++ [u], ys', (st2.trans a26).over hD nD, Z1, Nat.lt_of_lt_of_le hn2 a26.le, (a26.same n hn2).trans em, upd_same, pairedAppend (Z3 (AVls0.step a26 ra)) (Z3 (.cons r6.zero .nil)), q4, by rw [et]; simp⟩
  | none =>
    rw [qx] at ec
    have ec : Res.ok [] s2 = .ok ys sF := ec
    cases ec
    rw [List.append_nil] at et
    subst et
    refine .inl ⟨⟨us, SqL.of hu, by rw [← Paired.length ru]; exact List.getElem?_eq_none_iff.mp qx⟩, ?_⟩
    unfold newL at P1
    cases r with
    | false =>
      simp only [cond_false] at P1
      cases e : toPs tot with
      | none => rw [e] at P1; exact P1.elim
      | some ps =>
        rw [e] at P1
        have rv := toPs_ok ra e
        refine P1 m2 _ H2 st2 R2.unav (.v (.lst hD2 ?_ (Vls.ground (fun t b l _ => ⟨l.1, fun z => l.2.1 (.inl z), l.2.2⟩) rv)) fun _ => ⟨true, ps, D, acc, rfl, rfl, h0, hD2, Vls.unav rv⟩)
        exact lw_true.mpr ⟨F.hA D h0, hz, (R2.zd D (.inr rfl)).2⟩
    | true =>
      simp only [cond_true] at P1
      obtain ⟨m', h1, h2, R'⟩ := Rel.adopt R2 hD2 h0 hz ra
      have := P1 m' (.ref (m' sF.length)) H2 ⟨by have := st2.le; simp; omega, fun i hi => (h1 i (Nat.lt_of_lt_of_le hi st2.le)).trans (st2.same i hi), fun i h3 h4 => ?_, st2.keep, st2.dom, st2.imm⟩ R' (.ref (by simp))
      · rw [h2] at this; exact this
      · have hl : (sF ++ [AO.lst (tot.map A.strip)]).length = sF.length + 1 := by simp
        rw [hl] at h4
        by_cases q : i < sF.length
        · rw [h1 i q]; exact st2.new i h3 q
        · have : i = sF.length := by omega
          subst this; rw [h2]; exact hD
theorem compE_ok (r : Bool) {K : PySem.W.Frag} {vs is : List Nat} {di : DE} {dg : DG} {dt : DT} {de : DE} (his : ∀ i ∈ is, i ∈ vs) {σ : St} {H : Hp} {Q : VK} :
    tG rV c W (dCompE r vs di dg dt de) σ H Q → tLc (tI c W (dItem di)) (tgG c is dg) (tG rB c W0 dt) (tG rV c W0 de) vs σ H Q ∨ tLc (iList K (tG rV c W di)) (tgG c is dg) (tG rB c W0 dt) (tG rV c W0 de) vs σ H Q := fun ⟨F, m, s, S, hc, R, P⟩ => by
  unfold dCompE at P
  cases e : di S s with
  | ex x st1 => rw [e] at P; exact .inl (comp_ok r his ⟨F, m, s, S, hc, R, by unfold dComp dItem; rw [e]; exact P⟩)
  | bad => rw [e] at P; exact P.elim
  | ok x st1 =>
    rw [e] at P
    cases x with
    | v p fr =>
      refine .inl (comp_ok r his ⟨F, m, s, S, hc, R, ?_⟩)
      unfold dComp dItem; rw [e]
      simp only [Res.then] at P ⊢
      cases q : itemsV (.v p fr) with
      | none => rw [q] at P; exact P.elim
      | some xs => rw [q] at P; exact P
    | ref n => exact .inr (comp_okR r his hc R e P)
theorem pea_compE (r : Bool) {elt tg iter : Expr} {ifs : List Expr} {scope : Scope} {own : List (Str × Nat)} {is : List Nat} {pos : Pos} {di : DE} {dg : DG} {dt : DT} {de : DE} (cn : Cn X c) (hi : PEA X c W iter di) (ok : BlkOk X.N X.env.scope scope own) (his : ∀ i ∈ is, i ∈ own.map (·.2))
    (hg : ∀ (s : Shared) (H : Hp) (C : Addr) (cl : List (Str × Addr)) (fp : List Addr), PGA (X.blk s H scope (compEnvC scope cl C X.env) fp) c is tg dg) (ht : ∀ (s : Shared) (H : Hp) (C : Addr) (cl : List (Str × Addr)) (fp : List Addr), PTsA (X.blk s H scope (compEnvC scope cl C X.env) fp) c W0 ifs dt)
    (he : ∀ (s : Shared) (H : Hp) (C : Addr) (cl : List (Str × Addr)) (fp : List Addr), PEA (X.blk s H scope (compEnvC scope cl C X.env) fp) c W0 elt de) (hs : ∀ x, foldedSetIterable iter X.env x = pure x := by intro _; rfl) :
    PEA X c W (.ListComp elt [⟨tg, iter, ifs, 0⟩] scope pos) (dCompE r (own.map (·.2)) di dg dt de) := ((pe_lc cn.calm cn.nd (pia_seq cn.K hi) ok hg ht he hs).or (pe_lc cn.calm cn.nd (pi_list hi) ok hg ht he hs)).imp fun _ _ _ => compE_ok r his
theorem psa_setLcE (r : Bool) {i : Nat} {y : Str} {py spos : Pos} {elt tg iter : Expr} {ifs : List Expr} {scope : Scope} {own : List (Str × Nat)} {is : List Nat} {pos : Pos} {di : DE} {dg : DG} {dt : DT} {de : DE} (cn : Cn X c) (hi : PEA X c W iter di) (ok : BlkOk X.N X.env.scope scope own) (his : ∀ i ∈ is, i ∈ own.map (·.2))
    (hg : ∀ (s : Shared) (H : Hp) (C : Addr) (cl : List (Str × Addr)) (fp : List Addr), PGA (X.blk s H scope (compEnvC scope cl C X.env) fp) c is tg dg) (ht : ∀ (s : Shared) (H : Hp) (C : Addr) (cl : List (Str × Addr)) (fp : List Addr), PTsA (X.blk s H scope (compEnvC scope cl C X.env) fp) c W0 ifs dt)
    (he : ∀ (s : Shared) (H : Hp) (C : Addr) (cl : List (Str × Addr)) (fp : List Addr), PEA (X.blk s H scope (compEnvC scope cl C X.env) fp) c W0 elt de)
    (hsw : swapsWith (.ListComp elt [⟨tg, iter, ifs, 0⟩] scope pos) (some (.Name y py)) spos.line X.env = pure true) (hy : X.N[i]? = some y := by rfl) (hyl : X.env.scope.names.lookup y = some .local := by rfl) (hs : ∀ x, foldedSetIterable iter X.env x = pure x := by intro _; rfl) :
    PSA X c W (.Assign [.Name y py] (.ListComp elt [⟨tg, iter, ifs, 0⟩] scope pos) spos) (dSet i (dCompE r (own.map (·.2)) di dg dt de)) :=
  ((ps_setLc cn.calm cn.nd hy hyl hsw (pia_seq cn.K hi) ok hg ht he hs).or (ps_setLc cn.calm cn.nd hy hyl hsw (pi_list hi) ok hg ht he hs)).imp fun D σ H ⟨F, m, s, S, hc, R, P⟩ =>
  compE_ok r his ⟨F, m, s, S, hc, R, (PostS.bind P).imp fun v H1 ⟨m1, st1, x, _, a, b, rx, P1⟩ => P1 m1 _ H1 Step.refl (b.slot rx)⟩
end
end A

/-! The A-layer, part 10: list methods, stored items, augmented and parallel assignment, steps of ranges. -/
namespace A
open PySem PySem.Spec PyProof.Rows L2

/-! ### methods of lists -/
def isLst (st : Store) : AV → Bool
  | .v (.lst _ _) _ => true
  | .v (.scr _) _ => true
  | .ref n => (lstAt st n).isSome
  | _ => false
def dMeth (f : AV → List AV → Store → Res AV) (de : DE) (da : DA) : DE := fun S st => (de S st).then fun x st1 => bif isLst st1 x then (da S st1).then fun xs st2 => f x xs st2 else .bad
def dMeth0 (f : AV → List AV → Store → Res AV) (de : DE) : DE := fun S st => (de S st).then fun x st1 => bif isLst st1 x then f x [] st1 else .bad
def MRok (c : Ct) (r : V → List V → Hp → VK → Prop) (f : AV → List AV → Store → Res AV) : Prop := ∀ (W : WX) (F : Fix) (m : Nat → Addr) (st : Store) (S : Slots) (σ : St) (H : Hp) (x : AV) (v : V) (xs : List AV) (vs : List V) (Q : VK), F.c = c → Rel F m st S σ H → AVal F m st.length H x v → AVls F m st.length H xs vs →
  PostE rV W F m st.length H S σ (f x xs st) Q → r v vs H Q
section
variable {X : Cx} {c : Ct} {W : WX} {F : Fix} {m : Nat → Addr} {H : Hp} {S : Slots} {σ : St} {st : Store}
theorem isLst_ok (hc : F.c = c) (R : Rel F m st S σ H) {x : AV} {v : V} (h : AVal F m st.length H x v) (e : isLst st x = true) : tyV c.K "list" v H := by
  unfold isLst at e
  split at e
  · cases h with
    | v h f => cases h with
      | lst h l r => exact .inl ⟨rfl, _, SqL.of h⟩
  · cases h with
    | v h f => cases h with
      | scr h => rw [hc] at h; exact .inl ⟨rfl, _, scr_sq h⟩
  · rename_i n
    cases q : lstAt st n with
    | none => rw [q] at e; cases e
    | some xs =>
      obtain ⟨_, vs, hv, _⟩ := lstAt_ok R q
      cases h with
      | ref hn => exact .inl ⟨rfl, _, SqL.of hv⟩
  · cases e
variable {o e : Expr} {es : List Expr} {de : DE} {da : DA} {name : Str} {apos cpos : Pos} {id : String} {r : V → List V → Hp → VK → Prop} {f : AV → List AV → Store → Res AV}
theorem pea_meth (cn : Cn X c) (slot : Slot "list" name id) (hty : typeOf (.builtin id) = pure (.type "method_descriptor")) (hm : MtR X id r) (hf : MRok c r f) (ho : PEA X c W o de) (ha : PAA X c W (e :: es) da)
    (hbase : attributeBase o name X.env (eval o X.env) = eval o X.env := by rfl)
    (hfew : ((backTo cpos (starEach (e :: es) X.env)).all (fun x => !x.1) && (backToKw cpos (keywordEach [] X.env)).all (fun x => x.1.isSome)
      && decide ((e :: es).length + ([] : List Keyword).length + (if ([] : List Keyword).isEmpty then 0 else 1) < 30)) = true := by rfl)
    (hline : (apos.endLine == cpos.line) = true := by rfl) (hs : starEach (e :: es) X.env = (false, eval e X.env) :: starEach es X.env := by rfl) (hplain : (backTo cpos (starEach es X.env)).any (·.1) = false := by rfl) :
    PEA X c W (.Call (.Attribute o name apos) (e :: es) [] cpos) (dMeth f de da) := (pe_bm PySem.F.plainAttrs_list slot hty hm ho ha hbase hfew hline hs hplain).imp fun σ H Q ⟨F, m, s, S, hc, R, P⟩ =>
  ⟨F, m, s, S, hc, R, (PostE.bind P).imp fun v H1 ⟨m1, s1, x, _, a1, R1, r1, P1⟩ => by
    cases q : isLst s1 x with
    | false => rw [q] at P1; exact P1.elim
    | true =>
      rw [q] at P1
      exact ⟨by rw [← cn.K]; exact isLst_ok hc R1 r1 q, F, m1, s1, S, hc, R1, (PostE.bind P1).imp fun vs H2 ⟨m2, s2, xs, _, a2, R2, r2, P2⟩ => hf W F m2 s2 S σ H2 x v xs vs Q hc R2 (AVal.step a2 r1) r2 P2⟩⟩
theorem pea_meth0 (cn : Cn X c) (slot : Slot "list" name id) (hty : typeOf (.builtin id) = pure (.type "method_descriptor")) (hm : MtR X id r) (hf : MRok c r f) (ho : PEA X c W o de)
    (hbase : attributeBase o name X.env (eval o X.env) = eval o X.env := by rfl) (hline : (apos.endLine == cpos.line) = true := by rfl) :
    PEA X c W (.Call (.Attribute o name apos) [] [] cpos) (dMeth0 f de) := (pe_bm0 PySem.F.plainAttrs_list slot hty hm ho hbase hline).imp fun σ H Q ⟨F, m, s, S, hc, R, P⟩ =>
  ⟨F, m, s, S, hc, R, (PostE.bind P).imp fun v H1 ⟨m1, s1, x, _, a1, R1, r1, P1⟩ => by
    cases q : isLst s1 x with
    | false => rw [q] at P1; exact P1.elim
    | true =>
      rw [q] at P1
      exact ⟨by rw [← cn.K]; exact isLst_ok hc R1 r1 q, hf W F m1 s1 S σ H1 x v [] [] Q hc R1 r1 .nil P1⟩⟩
theorem avNon {N : Nat} : AVal F m N H (.v .non false) .non := .v .non fun e => nomatch e
/-- the store's list n becomes ys -/
def putL (n : Nat) (ys : List AV) (y : AV) (st : Store) : Res AV := .ok y (st.set n (.lst ys))
theorem putL_ok {n : Nat} {ys : List AV} {us : List V} {y : AV} {u : V} {Q : VK} (R : Rel F m st S σ H) (hn : n < st.length) (h : AVls0 F m st.length H ys us) (hy : ∀ H', Step m st.length H m st.length H' → AVal F m st.length H' y u) (P : PostE rV W F m st.length H S σ (putL n ys y st) Q) : Q u (upd H (m n) (.lst us)) := by
  obtain ⟨a, R'⟩ := R.write hn (.lst h)
  have hl : (st.set n (AO.lst ys)).length = st.length := List.length_set
  refine P m u _ a R' ?_
  show AVal F m (st.set n (AO.lst ys)).length _ y u
  rw [hl] at a ⊢
  exact hy _ a
/-- the lists behind list values -/
def itemsOf (st : Store) : AV → Option (List AV)
  | .v (.lst _ ps) _ => some (ps.map (AV.v · false))
  | .ref n => lstAt st n
  | _ => none
theorem itemsOf_ok (R : Rel F m st S σ H) {x : AV} {v : V} {xs : List AV} (h : AVal F m st.length H x v) (e : itemsOf st x = some xs) : ∃ a vs, v = .ref a ∧ H a = some (.lst vs) ∧ AVls0 F m st.length H xs vs := by
  unfold itemsOf at e
  split at e
  · cases e
    cases h with
    | v h f => cases h with
      | lst h l r => exact ⟨_, _, rfl, h, AVls.zero (Vls.avls r)⟩
  · obtain ⟨_, vs, hv, r⟩ := lstAt_ok R e
    cases h with
    | ref hn => exact ⟨_, _, rfl, hv, r⟩
  · cases e
def fAppend : AV → List AV → Store → Res AV := fun x as st => match x, as with
  | .ref n, [y] => match lstAt st n with
    | some xs => bif Nat.blt xs.length 1000000 then putL n (xs ++ [A.strip y]) (.v .non false) st else .bad
    | none => .bad
  | _, _ => .bad
theorem lt_line {n : Nat} (h : Nat.blt n 1000000 = true) : n < sizeLine := Nat.lt_of_lt_of_le (Nat.le_of_ble_eq_true h) (by decide)
theorem mr_append : MRok c rAppend fAppend := by
  intro W F m st S σ H x v xs vs Q hc R rx rs P
  unfold fAppend at P
  split at P
  · rename_i n y
    cases rx with
    | ref hn =>
    cases rs with
    | cons ry t =>
    cases t
    split at P
    · rename_i ys e
      obtain ⟨_, us, hu, ru⟩ := lstAt_ok R e
      cases q : Nat.blt ys.length 1000000 with
      | false => rw [q] at P; exact P.elim
      | true =>
        rw [q] at P
        exact ⟨_, us, _, rfl, rfl, hu, by rw [← Paired.length ru]; exact lt_line q, putL_ok R hn (pairedAppend ru (.cons ry.zero.strip0 .nil)) (fun _ _ => avNon) P⟩
    · exact P.elim
  · exact P.elim
def fExtend : AV → List AV → Store → Res AV := fun x as st => match x, as with
  | .ref n, [y] => match lstAt st n, itemsOf st y with
    | some xs, some ys => bif Nat.ble (xs.length + ys.length) 1000000 then putL n (xs ++ ys) (.v .non false) st else .bad
    | _, _ => .bad
  | _, _ => .bad
theorem mr_extend : MRok c rExtend fExtend := by
  intro W F m st S σ H x v xs vs Q hc R rx rs P
  unfold fExtend at P
  split at P
  · rename_i n y
    cases rx with
    | ref hn =>
    cases rs with
    | cons ry t =>
    cases t
    split at P
    · rename_i ys zs e e2
      obtain ⟨_, us, hu, ru⟩ := lstAt_ok R e
      obtain ⟨b, ws, rfl, hw, rw'⟩ := itemsOf_ok R ry e2
      cases q : Nat.ble (ys.length + zs.length) 1000000 with
      | false => rw [q] at P; exact P.elim
      | true =>
        rw [q] at P
        exact ⟨_, b, us, ws, rfl, rfl, hu, hw, by rw [← Paired.length ru, ← Paired.length rw']; exact le_line q, putL_ok R hn (pairedAppend ru rw') (fun _ _ => avNon) P⟩
    · exact P.elim
  · exact P.elim
def fClear : AV → List AV → Store → Res AV := fun x as st => match x, as with
  | .ref n, [] => match lstAt st n with
    | some _ => putL n [] (.v .non false) st
    | none => .bad
  | _, _ => .bad
theorem mr_clear : MRok c rClear fClear := by
  intro W F m st S σ H x v xs vs Q hc R rx rs P
  unfold fClear at P
  split at P
  · cases rx with
    | ref hn =>
    cases rs
    split at P
    · rename_i ys e
      obtain ⟨_, us, hu, ru⟩ := lstAt_ok R e
      exact ⟨_, us, rfl, rfl, hu, putL_ok R hn .nil (fun _ _ => avNon) P⟩
    · exact P.elim
  · exact P.elim
def fReverse : AV → List AV → Store → Res AV := fun x as st => match x, as with
  | .ref n, [] => match lstAt st n with
    | some xs => putL n xs.reverse (.v .non false) st
    | none => .bad
  | _, _ => .bad
theorem mr_reverse : MRok c rReverse fReverse := by
  intro W F m st S σ H x v xs vs Q hc R rx rs P
  unfold fReverse at P
  split at P
  · cases rx with
    | ref hn =>
    cases rs
    split at P
    · rename_i ys e
      obtain ⟨_, us, hu, ru⟩ := lstAt_ok R e
      exact ⟨_, us, rfl, rfl, hu, putL_ok R hn (pairedRev ru) (fun _ _ => avNon) P⟩
    · exact P.elim
  · exact P.elim
theorem AVal0.at {x : AV} {v : V} {N : Nat} (h : AVal0 F m N H x v) (H' : Hp) (s : Step m N H m N H') : AVal F m N H' (A.strip x) v := (AVal0.step s h).strip
def fPop : AV → List AV → Store → Res AV := fun x as st => match x, as with
  | .ref n, [] => match lstAt st n with
    | some xs => match xs[xs.length - 1]? with
      | some y => putL n xs.dropLast (A.strip y) st
      | none => .bad
    | none => .bad
  | _, _ => .bad
theorem pairedInit {α β : Type} {P : α → β → Prop} {xs : List α} {vs : List β} (h : Paired P xs vs) : Paired P xs.dropLast vs.dropLast := by
  rw [List.dropLast_eq_take, List.dropLast_eq_take, ← Paired.length h]
  exact pairedTake _ h
theorem mr_pop : MRok c rPop fPop := by
  intro W F m st S σ H x v xs vs Q hc R rx rs P
  unfold fPop at P
  split at P
  · cases rx with
    | ref hn =>
    cases rs
    split at P
    · rename_i ys e
      obtain ⟨_, us, hu, ru⟩ := lstAt_ok R e
      split at P
      · rename_i y ey
        obtain ⟨w, ew, rw'⟩ := pairedGet ru ey
        exact ⟨_, us, w, rfl, rfl, hu, by rw [← Paired.length ru]; exact ew, putL_ok R hn (pairedInit ru) (fun H' s => AVal0.at rw' H' s) P⟩
      · exact P.elim
    · exact P.elim
  · exact P.elim
def fPopAt : AV → List AV → Store → Res AV := fun x as st => match x, as with
  | .ref n, [.v (.int i) _] => match lstAt st n with
    | some xs => bif bnd i then (match L2.ixN xs.length i with
      | some k => (match xs[k]? with
        | some y => putL n (xs.eraseIdx k) (A.strip y) st
        | none => .bad)
      | none => .bad) else .bad
    | none => .bad
  | _, _ => .bad
theorem mr_popAt : MRok c rPopAt fPopAt := by
  intro W F m st S σ H x v xs vs Q hc R rx rs P
  unfold fPopAt at P
  split at P
  · rename_i n i fr
    cases rx with
    | ref hn =>
    cases rs with
    | cons ry t =>
    cases t
    have ei := isI ry
    subst ei
    split at P
    · rename_i ys e
      obtain ⟨_, us, hu, ru⟩ := lstAt_ok R e
      cases qb : bnd i with
      | false => rw [qb] at P; exact P.elim
      | true =>
        rw [qb] at P
        simp only [cond_true] at P
        split at P
        · rename_i k ek
          split at P
          · rename_i y ey
            obtain ⟨w, ew, rw'⟩ := pairedGet ru ey
            have hs := (ixN_seq ek).1
            rw [Paired.length ru] at hs
            have hb := bnd_ok qb
            exact ⟨_, us, i, k, w, rfl, rfl, hu, by omega, by omega, hs, ew, putL_ok R hn (pairedErase k ru) (fun H' s => AVal0.at rw' H' s) P⟩
          · exact P.elim
        · exact P.elim
    · exact P.elim
  · exact P.elim
def fInsert : AV → List AV → Store → Res AV := fun x as st => match x, as with
  | .ref n, [.v (.int i) _, y] => match lstAt st n with
    | some xs => bif Nat.blt xs.length 1000000 && decide (0 ≤ i) && bnd i then putL n (xs.take i.toNat ++ [A.strip y] ++ xs.drop i.toNat) (.v .non false) st else .bad
    | none => .bad
  | _, _ => .bad
theorem mr_insert : MRok c (fun x vs H Q => ∃ (l : Addr) (xs : List V) (i : Int) (y : V), x = .ref l ∧ vs = [.int i, y] ∧ H l = some (.lst xs) ∧ xs.length < sizeLine ∧ 0 ≤ i ∧ i < 2 ^ 63 ∧
    Q .non (upd H l (.lst (xs.take i.toNat ++ [y] ++ xs.drop i.toNat)))) fInsert := by
  intro W F m st S σ H x v xs vs Q hc R rx rs P
  unfold fInsert at P
  split at P
  · rename_i n i fr y
    cases rx with
    | ref hn =>
    cases rs with
    | cons ri t =>
    cases t with
    | cons ry t =>
    cases t
    have ei := isI ri
    subst ei
    split at P
    · rename_i ys e
      obtain ⟨_, us, hu, ru⟩ := lstAt_ok R e
      cases qb : Nat.blt ys.length 1000000 && decide (0 ≤ i) && bnd i with
      | false => rw [qb] at P; exact P.elim
      | true =>
        rw [qb] at P
        rw [Bool.and_eq_true, Bool.and_eq_true] at qb
        have hb := bnd_ok qb.2
        exact ⟨_, us, i, _, rfl, rfl, hu, by rw [← Paired.length ru]; exact lt_line qb.1.1, of_decide_eq_true qb.1.2, by omega, putL_ok R hn (pairedAppend (pairedAppend (pairedTake _ ru) (.cons ry.zero.strip0 .nil)) (pairedDrop _ ru)) (fun _ _ => avNon) P⟩
    · exact P.elim
  · exact P.elim
end

/-! ### an item stored -/
section
variable {X : Cx} {c : Ct} {W : WX} {o i e : Expr} {dv dob di : DE} {pos pos' : Pos}
def fPut (x i y : AV) (st : Store) : Option Store := match x, i with
  | .ref n, .v (.int k) _ => match lstAt st n with
    | some xs => match L2.ixN xs.length k with
      | some j => some (st.set n (.lst (xs.set j (A.strip y))))
      | none => none
    | none => none
  | _, _ => none
theorem fPut_ok {x i y : AV} {st st4 : Store} (h : fPut x i y st = some st4) : ∃ n k fr xs j, x = .ref n ∧ i = .v (.int k) fr ∧ lstAt st n = some xs ∧ L2.ixN xs.length k = some j ∧ st4 = st.set n (.lst (xs.set j (A.strip y))) := by
  unfold fPut at h
  split at h
  · split at h
    · split at h
      · cases h; exact ⟨_, _, _, _, _, rfl, rfl, ‹_›, ‹_›, rfl⟩
      · cases h
    · cases h
  · cases h
def dPut (dv dob di : DE) : DS := fun S st => (dv S st).flow S fun y st1 => (dob S st1).flow S fun x st2 => (di S st2).flow S fun i st3 => match fPut x i y st3 with
  | some st4 => .nx S st4
  | none => .bad
theorem psa_put (he : PEA X c W e dv) (ho : PEA X c W o dob) (hi : PEA X c W i di) (hs : swapsWithSole [.Subscript o i pos'] e pos.line X.env = pure false := by rfl) (hw : swappedStores [.Subscript o i pos'] e X.env = pure none := by rfl)
    (h1 : (assignEach [.Subscript o i pos'] X.env).map (·.2) = [assign (.Subscript o i pos') X.env] := by rfl)
    (ha : ∀ v, assign (.Subscript o i pos') X.env v = (do
      let ov ← holding [v] (eval o X.env)
      let iv ← holding [v, ov] (eval i X.env)
      standAt pos'
      holding [v, ov, iv] (setItem ov iv v)
      release [v, ov, iv] []) := by intro _; rfl) : PSA X c W (.Assign [.Subscript o i pos'] e pos) (dPut dv dob di) := (ps_asg he (pg_sub ho hi set_list ha) hs hw h1).imp fun D σ H ⟨F, m, s, S, hc, R, P⟩ =>
  ⟨F, m, s, S, hc, R, (PostS.bind P).imp fun v H1 ⟨m1, s1, y, _, a1, R1, r1, P1⟩ => ⟨F, m1, s1, S, hc, R1, (PostS.bind P1).imp fun v2 H2 ⟨m2, s2, x, _, a2, R2, r2, P2⟩ => ⟨F, m2, s2, S, hc, R2, (PostS.bind P2).imp fun v3 H3 ⟨m3, s3, k, _, a3, R3, r3, P3⟩ => by
    have r1 := AVal.step (a2.trans a3) r1
    have r2 := AVal.step a3 r2
    cases q : fPut x k y s3 with
    | none => rw [q] at P3; exact P3.elim
    | some st4 =>
      rw [q] at P3
      obtain ⟨n, kk, fr, ys, j, rfl, rfl, el, ej, rfl⟩ := fPut_ok q
      cases r2 with
      | ref hn =>
      have ei := isI r3
      subst ei
      obtain ⟨_, us, hu, ru⟩ := lstAt_ok R3 el
      obtain ⟨a, R'⟩ := R3.write (o := .lst (ys.set j (A.strip y))) hn (.lst (pairedSet r1.zero.strip0 j ru))
      exact ⟨_, us, kk, j, rfl, rfl, hu, by rw [← Paired.length ru]; exact ej, P3 m3 σ _ a R'⟩⟩⟩⟩
/-! ### name += e; unary minus; a, b = x, y -/
def fInts : AV → Option Int
  | .v (.int i) _ => some i
  | _ => none
def dAug (neg : Bool) (i : Nat) (de : DE) : DS := fun S st => match (S[i]?).join.bind fInts with
  | none => .bad
  | some a => (de S st).flow S fun y st1 => match fInts y with
    | some b => .nx (S.set i (some (.v (.int (bif neg then a - b else a + b)) false))) st1
    | none => .bad
theorem fInts_ok {F : Fix} {m : Nat → Addr} {N : Nat} {H : Hp} {x : AV} {v : V} {i : Int} (h : AVal F m N H x v) (e : fInts x = some i) : v = .int i := by
  unfold fInts at e
  split at e
  · cases e; exact isI h
  · cases e
theorem psa_aug (cn : Cn X c) (neg : Bool) {op : Operator} {i : Nat} {x : Str} {de : DE} (hop : PIp X op (ipI fun i j => bif neg then i - j else i + j)) (he : PEA X c W e de) (hi : X.N[i]? = some x := by rfl) (hx : Loc X.env.scope x := by first | exact Or.inl rfl | exact Or.inr rfl) (hf : X.fn x = true ∨ X.env.scope.names.lookup x = some .local := by first | exact .inl rfl | exact .inr rfl) :
    PSA X c W (.AugAssign (.Name x pos') op e pos) (dAug neg i de) := (ps_aug cn.nd hi hx he hop hf).imp fun D σ H ⟨F, m, s, S, hc, R, P⟩ => by
  unfold dAug at P
  cases q : (S[i]?).join.bind fInts with
  | none => rw [q] at P; exact P.elim
  | some a =>
    rw [q] at P
    obtain ⟨y, ey, ea⟩ : ∃ y, S[i]? = some (some y) ∧ fInts y = some a := by
      cases q1 : S[i]? with
      | none => rw [q1] at q; cases q
      | some z => cases z with
        | none => rw [q1] at q; cases q
        | some y => rw [q1] at q; exact ⟨y, rfl, q⟩
    obtain ⟨v, ev, rv⟩ := R.slo i y ey
    have := fInts_ok rv ea
    subst this
    refine ⟨_, ev, F, m, s, S, hc, R, (PostS.bind P).imp fun w H1 ⟨m1, s1, z, _, a1, R1, r1, P1⟩ => ?_⟩
    cases q2 : fInts z with
    | none => rw [q2] at P1; exact P1.elim
    | some b =>
      rw [q2] at P1
      have := fInts_ok r1 q2
      subst this
      exact ⟨a, b, rfl, rfl, P1 m1 _ H1 Step.refl (R1.slot (.v (.int _) fun e => nomatch e))⟩
theorem ip_addB : PIp X .Add (ipI fun i j => bif false then i - j else i + j) := ip_add
theorem ip_subB : PIp X .Sub (ipI fun i j => bif true then i - j else i + j) := ip_sub
def dNeg (de : DE) : DE := fun S st => (de S st).then fun x st1 => match fInts x with
  | some i => .ok (.v (.int (-i)) false) st1
  | none => .bad
theorem pea_neg {de : DE} (he : PEA X c W e de) : PEA X c W (.UnaryOp .USub e pos) (dNeg de) := (pe_un un_neg he).imp fun σ H Q ⟨F, m, s, S, hc, R, P⟩ =>
  ⟨F, m, s, S, hc, R, (PostE.bind P).imp fun v H1 ⟨m1, s1, x, _, a1, R1, r1, P1⟩ => by
    cases q : fInts x with
    | none => rw [q] at P1; exact P1.elim
    | some i =>
      rw [q] at P1
      have := fInts_ok r1 q
      subst this
      exact ⟨i, rfl, PostE.here P1 R1 (.v (.int _) fun e => nomatch e)⟩⟩
theorem psa_doc {x : Str} {j} {pos pos' : Pos} : PSA X c W (.Expr (.Constant (.str x) j pos) pos') dNext := ps_doc.imp fun D σ H ⟨F, m, s, S, hc, R, P⟩ => P m σ H Step.refl R
def dPar (i j : Nat) (da : DA) : DS := fun S st => (da S st).flow S fun xs st1 => match xs with
  | [x, y] => .nx ((S.set i (some x)).set j (some y)) st1
  | _ => .bad
theorem psa_par (cn : Cn X c) {i j : Nat} {x y : Str} {a b : Expr} {da : DA} {px py pt : Pos} {kt k2 pt2} (ha : PAA X c W [a, b] da) (hw : swappedStores [.Tuple [.Name x px, .Name y py] kt pt] (.Tuple [a, b] k2 pt2) X.env = pure (some [x, y])) (hi : X.N[i]? = some x := by rfl) (hj : X.N[j]? = some y := by rfl) (hij : i ≠ j := by decide)
    (hx : X.env.scope.names.lookup x = some .local := by rfl) (hy : X.env.scope.names.lookup y = some .local := by rfl)
    (hs : swapsWithSole [.Tuple [.Name x px, .Name y py] kt pt] (.Tuple [a, b] k2 pt2) pos.line X.env = pure false := by rfl) :
    PSA X c W (.Assign [.Tuple [.Name x px, .Name y py] kt pt] (.Tuple [a, b] k2 pt2) pos) (dPar i j da) := (ps_par cn.calm cn.nd hi hj hij hx hy ha hw hs).imp fun D σ H ⟨F, m, s, S, hc, R, P⟩ =>
  ⟨F, m, s, S, hc, R, (PostS.bind P).imp fun vs H1 ⟨m1, s1, xs, _, a1, R1, r1, P1⟩ => by
    split at P1
    · cases r1 with
      | cons r1 t =>
      cases t with
      | cons r2 t =>
      cases t
      exact ⟨_, _, rfl, P1 m1 _ H1 Step.refl ((R1.slot r1).slot r2)⟩
    · exact P1.elim⟩
def dPar3 (i j l : Nat) (da : DA) : DS := fun S st => (da S st).flow S fun xs st1 => match xs with
  | [x, y, z] => .nx (((S.set i (some x)).set j (some y)).set l (some z)) st1
  | _ => .bad
end
end A

/-! The A-layer, part 11: walks over range with a step, enumerate, zip, reversed. -/
namespace A
open PySem PySem.Spec PyProof.Rows L2
section
variable {X : Cx} {c : Ct} {W : WX} {tg e e2 : Expr} {es : List Expr} {de : DE} {da : DA} {p pos : Pos}
def rangeC (lo k : Int) (n : Nat) : List AV := (List.range n).map fun (i : Nat) => .v (.int (lo + (i : Int) * k)) false
theorem walk_rangeC (lo k : Int) (n : Nat) : WalkA c (Itc lo k n) (rangeC lo k n) fun _ _ _ _ => True where
  stay := fun _ _ _ _ _ _ _ _ _ => trivial
  av := fun _ _ _ _ _ _ _ => trivial
  over := fun _ _ _ _ _ _ _ _ _ _ => trivial
  stop := fun F m st S σ H hc R g => by show n ≤ (rangeC lo k n).length; simp [rangeC]
  go := fun F m st S σ H i x hc R g e => by
    have := (List.getElem?_eq_some_iff.mp e).1
    show i < n
    simpa [rangeC] using this
  yld := fun F m st S σ H i x v H' hc R g e y => by
    obtain ⟨rfl, rfl⟩ := y
    have hi := (List.getElem?_eq_some_iff.mp e).1
    have : x = .v (.int (lo + (i : Int) * k)) false := by
      unfold rangeC at e hi
      rw [List.getElem?_map, List.getElem?_range (by simpa using hi)] at e
      cases e; rfl
    subst this
    exact ⟨fun b o h => h, .v (.int _) fun e => nomatch e⟩
def asI3 : List AV → Option (Int × Int × Int)
  | [.v (.int i) _, .v (.int j) _, .v (.int k) _] => some (i, j, k)
  | _ => none
theorem asI3_ok {F : Fix} {m : Nat → Addr} {N : Nat} {H : Hp} {xs : List AV} {vs : List V} {i j k : Int} (h : AVls F m N H xs vs) (e : asI3 xs = some (i, j, k)) : vs = [.int i, .int j, .int k] := by
  unfold asI3 at e
  split at e
  · cases e
    cases h with
    | cons a t =>
      cases t with
      | cons b t =>
        cases t with
        | cons d t => cases t; rw [isI a, isI b, isI d]
  · cases e
/-- range(i, j, -1) -/
def dRange3 (da : DA) : DA := fun S st => (da S st).then fun xs st1 => match asI3 xs with
  | some (i, j, k) => bif bnd i && bnd j && decide (k = -1) then .ok (rangeC i (-1) (i - j).toNat) st1 else .bad
  | none => .bad
theorem pia_range3 {a b d : Expr} (hm : X.mg "range" = none) (ha : PAA X c W [a, b, d] da) (hg : Gl X "range" := by rfl) (hs : starEach [a, b, d] X.env = (false, eval a X.env) :: starEach [b, d] X.env := by rfl) (hpl : (backTo pos (starEach [b, d] X.env)).any (·.1) = false := by rfl) : PIA X c W tg (.Call (.Name "range" p) [a, b, d] [] pos) (dRange3 da) :=
  (pi_range3 hg hm ha hs hpl).imp fun σ H R ⟨F, m, s, S, hc, R0, P⟩ => ⟨F, m, s, S, hc, R0, (PostI.bind P).imp fun vs H1 ⟨m1, s1, xs, _, a1, R1, r1, P1⟩ => by
    cases e : asI3 xs with
    | none => rw [e] at P1; exact P1.elim
    | some ij =>
      obtain ⟨i, j, k⟩ := ij
      rw [e] at P1
      simp only at P1
      cases q : bnd i && bnd j && decide (k = -1) with
      | false => rw [q] at P1; exact P1.elim
      | true =>
        rw [q] at P1
        rw [Bool.and_eq_true, Bool.and_eq_true] at q
        have hk : k = -1 := of_decide_eq_true q.2
        subst hk
        exact ⟨i, j, -1, _, asI3_ok r1 e, RgC.neg (bnd_ok q.1.1).1 (bnd_ok q.1.1).2 (bnd_ok q.1.2).1 (bnd_ok q.1.2).2, PostI.here P1 R1 (walk_rangeC i (-1) _) trivial⟩⟩
/-! a value's items, as they stand -/
inductive LA (c : Ct) (a : Addr) : List PV → Fix → (Nat → Addr) → Nat → Hp → Prop
  | lst {ps : List PV} {F : Fix} {m : Nat → Addr} {N : Nat} {H : Hp} {vs : List V} {t : Bool} : F.c = c → H a = some (.lst vs) → Lw F m N t a → Vls F.c (Lw F m N) H ps vs → LA c a ps F m N H
  | scr {ns : List Int} {F : Fix} {m : Nat → Addr} {N : Nat} {H : Hp} : ScrAt c.K H a ns → LA c a (ns.map .int) F m N H
structure TpA (c : Ct) (a : Addr) (ps : List PV) (F : Fix) (m : Nat → Addr) (N : Nat) (H : Hp) : Prop where
  at_ : ∃ vs, F.c = c ∧ SqT c.K H a vs ∧ Vls F.c (Lw F m N) H ps vs
theorem ints_vals {F : Fix} {m : Nat → Addr} {N : Nat} {H : Hp} : ∀ ns : List Int, Vls F.c (Lw F m N) H (ns.map .int) (ns.map V.int)
  | [] => .nil
  | n :: ns => .cons (.int n) (ints_vals ns)
section
variable {F : Fix} {m m' : Nat → Addr} {N N' : Nat} {H H' : Hp} {a D : Addr} {ps : List PV}
theorem LA.sq (h : LA c a ps F m N H) : ∃ vs, SqL c.K H a vs ∧ Vls F.c (Lw F m N) H ps vs := by
  cases h with
  | lst h0 h1 h2 h3 => exact ⟨_, SqL.of h1, h3⟩
  | scr h => exact ⟨_, scr_sq h, ints_vals _⟩
theorem LA.stay (h : LA c a ps F m N H) (s : Step m N H m' N' H') : LA c a ps F m' N' H' := by
  cases h with
  | lst h0 h1 h2 h3 => exact .lst h0 (s.keep a _ h1 h2.2.2) (Lw.step s h2 (some_ne h1)) (Vls.step s h3)
  | scr h => exact .scr (walk_scr.stay F _ _ _ _ _ _ s h)
theorem LA.av {b : Addr} (h : LA c a ps F m N H) (hb : H b = none) : LA c a ps (F.av b) m N H := by
  cases h with
  | lst h0 h1 h2 h3 => exact .lst h0 h1 ⟨h2.1, ⟨fun z => Or.elim z h2.2.1 fun z => (by rw [z, hb] at h1; cases h1), h2.2.2⟩⟩ (Vls.av h3 hb)
  | scr h => exact .scr h
theorem LA.over {acc acc' : List V} (h : LA c a ps F m N H) (hz : F.Z D) (hD : H D = some (.lst acc)) : LA c a ps F m N (upd H D (.lst acc')) := by
  cases h with
  | lst h0 h1 h2 h3 => exact .lst h0 (by rw [upd_ne (fun z => h2.2.1 (by rw [z]; exact hz))]; exact h1) h2 (over_vls hz hD h3)
  | scr h => exact .scr (walk_scr.over F m N _ _ _ _ hz hD h)
theorem TpA.stay (h : TpA c a ps F m N H) (s : Step m N H m' N' H') : TpA c a ps F m' N' H' := by
  obtain ⟨vs, h0, h1, h2⟩ := h.at_
  exact ⟨vs, h0, sqT_imm s.imm h1, Vls.step s h2⟩
theorem TpA.av {b : Addr} (h : TpA c a ps F m N H) (hb : H b = none) : TpA c a ps (F.av b) m N H := by
  obtain ⟨vs, h0, h1, h2⟩ := h.at_
  exact ⟨vs, h0, h1, Vls.av h2 hb⟩
theorem TpA.over {acc acc' : List V} (h : TpA c a ps F m N H) (hz : F.Z D) (hD : H D = some (.lst acc)) : TpA c a ps F m N (upd H D (.lst acc')) := by
  obtain ⟨vs, h0, h1, h2⟩ := h.at_
  exact ⟨vs, h0, sqT_imm (over_imm hD) h1, over_vls hz hD h2⟩
end
/-- a list's (true) or a tuple's (false) items -/
def seqP : AV → Option (Bool × List PV)
  | .v (.lst _ ps) _ => some (true, ps)
  | .v (.tup ps) _ => some (false, ps)
  | .v (.scr ns) _ => some (true, ns.map .int)
  | _ => none
theorem seqP_ok {F : Fix} {m : Nat → Addr} {N : Nat} {H : Hp} {x : AV} {v : V} {k : Bool} {ps : List PV} (hc : F.c = c) (h : AVal F m N H x v) (e : seqP x = some (k, ps)) : ∃ a, v = .ref a ∧ (if k then LA c a ps F m N H else TpA c a ps F m N H) := by
  unfold seqP at e
  split at e
  · cases e
    cases h with
    | v h f => cases h with
      | lst h l r => exact ⟨_, rfl, .lst hc h l r⟩
  · cases e
    cases h with
    | v h f => cases h with
      | tup h r => exact ⟨_, rfl, ⟨⟨_, hc, by rw [← hc]; exact h, r⟩⟩⟩
  · cases e
    cases h with
    | v h f => cases h with
      | scr h => exact ⟨_, rfl, .scr (by rw [← hc]; exact h)⟩
  · cases e
def pvs (ps : List PV) : List AV := ps.map (AV.v · false)
theorem rev_get {α : Type} {xs : List α} {i : Nat} (h : i < xs.length) : xs.reverse[i]? = xs[xs.length - 1 - i]? := List.getElem?_reverse h
theorem walk_rev {a : Addr} {ps : List PV} : WalkA c (Itv c.K a ps.length) (pvs ps.reverse) (LA c a ps) where
  stay := fun F m N H m' N' H' s h => h.stay s
  av := fun F m N H b hb h => h.av hb
  over := fun F m N H D acc acc' hz hD h => h.over hz hD
  stop := fun F m st S σ H hc R h => by show ps.length ≤ (pvs ps.reverse).length; simp [pvs]
  go := fun F m st S σ H i x hc R h e => by
    have hi : i < ps.length := by
      have := (List.getElem?_eq_some_iff.mp e).1
      simpa [pvs] using this
    obtain ⟨vs, h1, h2⟩ := h.sq
    obtain ⟨p, e1, rfl⟩ := map_get e
    rw [rev_get hi] at e1
    obtain ⟨v, e2, _⟩ := Vls.get h2 e1
    exact ⟨hi, vs, v, h1, e2⟩
  yld := fun F m st S σ H i x v H' hc R h e y => by
    have hi : i < ps.length := by
      have := (List.getElem?_eq_some_iff.mp e).1
      simpa [pvs] using this
    obtain ⟨vs, h1, h2⟩ := h.sq
    obtain ⟨p, e1, rfl⟩ := map_get e
    rw [rev_get hi] at e1
    obtain ⟨v', e2, h4⟩ := Vls.get h2 e1
    obtain ⟨rfl, y⟩ := y
    have := y vs h1
    rw [e2] at this; cases this
    exact ⟨fun b o h => h, .v h4 fun e => nomatch e⟩
theorem walk_revT {a : Addr} {ps : List PV} : WalkA c (RT.ItvT c.K a ps.length) (pvs ps.reverse) (TpA c a ps) where
  stay := fun F m N H m' N' H' s h => h.stay s
  av := fun F m N H b hb h => h.av hb
  over := fun F m N H D acc acc' hz hD h => h.over hz hD
  stop := fun F m st S σ H hc R h => by show ps.length ≤ (pvs ps.reverse).length; simp [pvs]
  go := fun F m st S σ H i x hc R h e => by
    have hi : i < ps.length := by
      have := (List.getElem?_eq_some_iff.mp e).1
      simpa [pvs] using this
    obtain ⟨vs, h0, h1, h2⟩ := h.at_
    obtain ⟨p, e1, rfl⟩ := map_get e
    rw [rev_get hi] at e1
    obtain ⟨v, e2, _⟩ := Vls.get h2 e1
    exact ⟨hi, vs, v, h1, e2⟩
  yld := fun F m st S σ H i x v H' hc R h e y => by
    have hi : i < ps.length := by
      have := (List.getElem?_eq_some_iff.mp e).1
      simpa [pvs] using this
    obtain ⟨vs, h0, h1, h2⟩ := h.at_
    obtain ⟨p, e1, rfl⟩ := map_get e
    rw [rev_get hi] at e1
    obtain ⟨v', e2, h4⟩ := Vls.get h2 e1
    obtain ⟨rfl, y⟩ := y
    have := y vs h1
    rw [e2] at this; cases this
    exact ⟨fun b o h => h, .v h4 fun e => nomatch e⟩
def dRevd (de : DE) : DA := fun S st => (de S st).then fun x st1 => match seqP x with
  | some (_, ps) => .ok (pvs ps.reverse) st1
  | none => .bad
theorem pia_rev (hK : c.K = X.K) (hm : X.mg "reversed" = none) (he : PEA X c W e de) (hg : Gl X "reversed" := by rfl) (hs : starEach [e] X.env = (false, eval e X.env) :: starEach [] X.env := by rfl) : PIA X c W tg (.Call (.Name "reversed" p) [e] [] pos) (dRevd de) :=
  (RT.pi_revA hg hm he hs).imp fun σ H R ⟨F, m, s, S, hc, R0, P⟩ => ⟨F, m, s, S, hc, R0, (PostI.bind P).imp fun v H1 ⟨m1, s1, x, _, a1, R1, r1, P1⟩ => by
    rw [← hK]
    cases q : seqP x with
    | none => rw [q] at P1; exact P1.elim
    | some kp =>
      obtain ⟨k, ps⟩ := kp
      rw [q] at P1
      obtain ⟨a, rfl, h⟩ := seqP_ok hc r1 q
      cases k with
      | true =>
        have h : LA c a ps F m1 s1.length H1 := h
        obtain ⟨vs, h1, h2⟩ := h.sq
        exact ⟨a, vs, rfl, .inl ⟨h1, by rw [← Vls.length h2]; exact PostI.here P1 R1 walk_rev h⟩⟩
      | false =>
        have h : TpA c a ps F m1 s1.length H1 := h
        obtain ⟨vs, h0, h1, h2⟩ := h.at_
        exact ⟨a, vs, rfl, .inr ⟨h1, by rw [← Vls.length h2]; exact PostI.here P1 R1 walk_revT h⟩⟩⟩
/-! enumerate -/
def enumP : Nat → List PV → List AV
  | _, [] => []
  | n, p :: ps => .v (.tup [.int n, p]) false :: enumP (n + 1) ps
theorem enumP_len : ∀ (n : Nat) (ps : List PV), (enumP n ps).length = ps.length
  | _, [] => rfl
  | n, p :: ps => by simp [enumP, enumP_len]
theorem enumP_get : ∀ {n : Nat} {ps : List PV} {i : Nat} {x : AV}, (enumP n ps)[i]? = some x → ∃ p, ps[i]? = some p ∧ x = .v (.tup [.int (n + i : Nat), p]) false
  | n, p :: ps, 0, x, e => by cases e; exact ⟨p, rfl, rfl⟩
  | n, p :: ps, i + 1, x, e => by
    obtain ⟨q, h1, h2⟩ := enumP_get (n := n + 1) (ps := ps) (i := i) e
    exact ⟨q, h1, by rw [h2, show n + 1 + i = n + (i + 1) by omega]⟩
theorem tupAt {c : Ct} {F : Fix} {m : Nat → Addr} {N : Nat} {H : Hp} {T : Addr} {qs : List PV} {us : List V} (hT : H T = none) (r : Vls F.c (Lw F m N) H qs us) : Same H (upd H T (.tup us)) ∧ AVal F m N (upd H T (.tup us)) (.v (.tup qs) false) (.ref T) :=
  ⟨same_upd hT, .v (.tup (.inl (.inl (upd_same))) (Vls.step (Step.of (same_upd hT)) r)) fun e => nomatch e⟩
theorem walk_enum {a : Addr} {ps : List PV} : WalkA c (Ite c.K a) (enumP 0 ps) (LA c a ps) where
  stay := fun F m N H m' N' H' s h => h.stay s
  av := fun F m N H b hb h => h.av hb
  over := fun F m N H D acc acc' hz hD h => h.over hz hD
  stop := fun F m st S σ H hc R h => by
    obtain ⟨vs, h1, h2⟩ := h.sq
    exact ⟨vs, h1, by rw [enumP_len, Vls.length h2]; exact Nat.le_refl _⟩
  go := fun F m st S σ H i x hc R h e => by
    obtain ⟨vs, h1, h2⟩ := h.sq
    obtain ⟨p, e1, _⟩ := enumP_get e
    obtain ⟨v, e2, _⟩ := Vls.get h2 e1
    exact ⟨vs, v, h1, e2⟩
  yld := fun F m st S σ H i x v H' hc R h e y => by
    obtain ⟨vs, h1, h2⟩ := h.sq
    obtain ⟨p, e1, rfl⟩ := enumP_get e
    obtain ⟨v', e2, h4⟩ := Vls.get h2 e1
    obtain ⟨T, x, rfl, hT, rfl, y⟩ := y
    have := y vs h1
    rw [e2] at this; cases this
    rw [Nat.zero_add]
    exact tupAt (c := c) hT (.cons (.int _) (.cons h4 .nil))
def dEnum (da : DA) : DA := fun S st => (da S st).then fun xs st1 => match xs with
  | [x] => match seqP x with
    | some (true, ps) => .ok (enumP 0 ps) st1
    | _ => .bad
  | _ => .bad
theorem pia_enum {elts : List Expr} {kk} {tpos : Pos} (hK : c.K = X.K) (hm : X.mg "enumerate" = none) (he : PAA X c W [e] da) (hg : Gl X "enumerate" := by rfl) (hs : starEach [e] X.env = [(false, eval e X.env)] := by rfl) : PIA X c W (.Tuple elts kk tpos) (.Call (.Name "enumerate" p) [e] [] pos) (dEnum da) :=
  (pi_enum hg hm he hs).imp fun σ H R ⟨F, m, s, S, hc, R0, P⟩ => ⟨F, m, s, S, hc, R0, (PostI.bind P).imp fun v H1 ⟨m1, s1, xs, _, a1, R1, r1, P1⟩ => by
    rw [← hK]
    split at P1
    · rename_i x
      cases r1 with
      | cons r1 t =>
      cases t
      split at P1
      · rename_i ps q
        obtain ⟨a, rfl, h⟩ := seqP_ok hc r1 q
        have h : LA c a ps F m1 s1.length H1 := h
        obtain ⟨vs, h1, h2⟩ := h.sq
        exact ⟨a, vs, rfl, h1, PostI.here P1 R1 walk_enum h⟩
      · exact P1.elim
    · exact P1.elim⟩
/-! zip -/
def zipP : List PV → List PV → List AV
  | p :: ps, q :: qs => .v (.tup [p, q]) false :: zipP ps qs
  | _, _ => []
theorem zipP_len : ∀ (ps qs : List PV), (zipP ps qs).length = min ps.length qs.length
  | p :: ps, q :: qs => by simp [zipP, zipP_len, Nat.succ_min_succ]
  | [], _ => by simp [zipP]
  | _ :: _, [] => by simp [zipP]
theorem zipP_get : ∀ {ps qs : List PV} {i : Nat} {x : AV}, (zipP ps qs)[i]? = some x → ∃ p q, ps[i]? = some p ∧ qs[i]? = some q ∧ x = .v (.tup [p, q]) false
  | p :: ps, q :: qs, 0, x, e => by cases e; exact ⟨p, q, rfl, rfl, rfl⟩
  | p :: ps, q :: qs, i + 1, x, e => zipP_get (ps := ps) (qs := qs) (i := i) e
  | [], _, _, _, e => by simp [zipP] at e
  | _ :: _, [], _, _, e => by simp [zipP] at e
theorem walk_zip {a b : Addr} {ps qs : List PV} : WalkA c (Itz c.K a b) (zipP ps qs) (fun F m N H => LA c a ps F m N H ∧ LA c b qs F m N H) where
  stay := fun F m N H m' N' H' s h => ⟨h.1.stay s, h.2.stay s⟩
  av := fun F m N H b hb h => ⟨h.1.av hb, h.2.av hb⟩
  over := fun F m N H D acc acc' hz hD h => ⟨h.1.over hz hD, h.2.over hz hD⟩
  stop := fun F m st S σ H hc R h => by
    obtain ⟨vs, h1, h2⟩ := h.1.sq
    obtain ⟨us, h3, h4⟩ := h.2.sq
    refine ⟨vs, us, h1, h3, ?_⟩
    rw [zipP_len, ← Vls.length h2, ← Vls.length h4]
    rcases Nat.le_total ps.length qs.length with l | l
    · exact .inl (by rw [Nat.min_eq_left l]; exact Nat.le_refl _)
    · exact .inr (by rw [Nat.min_eq_right l]; exact Nat.le_refl _)
  go := fun F m st S σ H i x hc R h e => by
    obtain ⟨vs, h1, h2⟩ := h.1.sq
    obtain ⟨us, h3, h4⟩ := h.2.sq
    obtain ⟨p, q, e1, e2, _⟩ := zipP_get e
    obtain ⟨v, f1, _⟩ := Vls.get h2 e1
    obtain ⟨u, f2, _⟩ := Vls.get h4 e2
    exact ⟨vs, us, v, u, h1, h3, f1, f2⟩
  yld := fun F m st S σ H i x v H' hc R h e y => by
    obtain ⟨vs, h1, h2⟩ := h.1.sq
    obtain ⟨us, h3, h4⟩ := h.2.sq
    obtain ⟨p, q, e1, e2, rfl⟩ := zipP_get e
    obtain ⟨v, f1, g1⟩ := Vls.get h2 e1
    obtain ⟨u, f2, g2⟩ := Vls.get h4 e2
    obtain ⟨T, x, y', rfl, hT, rfl, y1, y2⟩ := y
    have := y1 vs h1
    rw [f1] at this; cases this
    have := y2 us h3
    rw [f2] at this; cases this
    exact tupAt (c := c) hT (.cons g1 (.cons g2 .nil))
theorem walk_zipT {a b : Addr} {ps qs : List PV} : WalkA c (RZ.ItzT c.K a b) (zipP ps qs) (fun F m N H => TpA c a ps F m N H ∧ TpA c b qs F m N H) where
  stay := fun F m N H m' N' H' s h => ⟨h.1.stay s, h.2.stay s⟩
  av := fun F m N H b hb h => ⟨h.1.av hb, h.2.av hb⟩
  over := fun F m N H D acc acc' hz hD h => ⟨h.1.over hz hD, h.2.over hz hD⟩
  stop := fun F m st S σ H hc R h => by
    obtain ⟨vs, _, h1, h2⟩ := h.1.at_
    obtain ⟨us, _, h3, h4⟩ := h.2.at_
    refine ⟨vs, us, h1, h3, ?_⟩
    rw [zipP_len, ← Vls.length h2, ← Vls.length h4]
    rcases Nat.le_total ps.length qs.length with l | l
    · exact .inl (by rw [Nat.min_eq_left l]; exact Nat.le_refl _)
    · exact .inr (by rw [Nat.min_eq_right l]; exact Nat.le_refl _)
  go := fun F m st S σ H i x hc R h e => by
    obtain ⟨vs, _, h1, h2⟩ := h.1.at_
    obtain ⟨us, _, h3, h4⟩ := h.2.at_
    obtain ⟨p, q, e1, e2, _⟩ := zipP_get e
    obtain ⟨v, f1, _⟩ := Vls.get h2 e1
    obtain ⟨u, f2, _⟩ := Vls.get h4 e2
    exact ⟨vs, us, v, u, h1, h3, f1, f2⟩
  yld := fun F m st S σ H i x v H' hc R h e y => by
    obtain ⟨vs, _, h1, h2⟩ := h.1.at_
    obtain ⟨us, _, h3, h4⟩ := h.2.at_
    obtain ⟨p, q, e1, e2, rfl⟩ := zipP_get e
    obtain ⟨v, f1, g1⟩ := Vls.get h2 e1
    obtain ⟨u, f2, g2⟩ := Vls.get h4 e2
    obtain ⟨T, x, y', rfl, hT, rfl, y1, y2⟩ := y
    have := y1 vs h1
    rw [f1] at this; cases this
    have := y2 us h3
    rw [f2] at this; cases this
    exact tupAt (c := c) hT (.cons g1 (.cons g2 .nil))
def dZip (da : DA) : DA := fun S st => (da S st).then fun xs st1 => match xs with
  | [x, y] => match seqP x, seqP y with
    | some (true, ps), some (true, qs) => .ok (zipP ps qs) st1
    | some (false, ps), some (false, qs) => .ok (zipP ps qs) st1
    | _, _ => .bad
  | _ => .bad
theorem pia_zip {elts : List Expr} {kk} {tpos : Pos} (hK : c.K = X.K) (hm : X.mg "zip" = none) (he : PAA X c W [e, e2] da) (hg : Gl X "zip" := by rfl) (hs : starEach [e, e2] X.env = (false, eval e X.env) :: starEach [e2] X.env := by rfl) (hpl : (backTo pos (starEach [e2] X.env)).any (·.1) = false := by rfl) : PIA X c W (.Tuple elts kk tpos) (.Call (.Name "zip" p) [e, e2] [] pos) (dZip da) :=
  (RZ.pi_zipA hg hm he hs hpl).imp fun σ H R ⟨F, m, s, S, hc, R0, P⟩ => ⟨F, m, s, S, hc, R0, (PostI.bind P).imp fun v H1 ⟨m1, s1, xs, _, a1, R1, r1, P1⟩ => by
    rw [← hK]
    split at P1
    · rename_i x y
      cases r1 with
      | cons r1 t =>
      cases t with
      | cons r2 t =>
      cases t
      split at P1
      · rename_i ps qs q1 q2
        obtain ⟨a, rfl, h⟩ := seqP_ok hc r1 q1
        obtain ⟨b, rfl, h'⟩ := seqP_ok hc r2 q2
        have h : LA c a ps F m1 s1.length H1 := h
        have h' : LA c b qs F m1 s1.length H1 := h'
        obtain ⟨vs, h1, h2⟩ := h.sq
        obtain ⟨us, h3, h4⟩ := h'.sq
        exact ⟨a, b, vs, us, rfl, .inl ⟨h1, h3, PostI.here P1 R1 walk_zip ⟨h, h'⟩⟩⟩
      · rename_i ps qs q1 q2
        obtain ⟨a, rfl, h⟩ := seqP_ok hc r1 q1
        obtain ⟨b, rfl, h'⟩ := seqP_ok hc r2 q2
        have h : TpA c a ps F m1 s1.length H1 := h
        have h' : TpA c b qs F m1 s1.length H1 := h'
        obtain ⟨vs, _, h1, h2⟩ := h.at_
        obtain ⟨us, _, h3, h4⟩ := h'.at_
        exact ⟨a, b, vs, us, rfl, .inr ⟨h1, h3, PostI.here P1 R1 walk_zipT ⟨h, h'⟩⟩⟩
      · exact P1.elim
    · exact P1.elim⟩
end
end A

/-! The A-layer, part 12: what is never reached; list(range(..)), list(reversed(..)). -/
namespace A
open PySem PySem.Spec PyProof.Rows L2
def dBad : DS := fun _ _ => .bad
theorem psa_bad {X : Cx} {c : Ct} {W : WX} {s : Stmt} : PSA X c W s dBad := ⟨fun pins s σ H D I ⟨F, m, st, S, hc, R, P⟩ => P.elim⟩
section
variable {X : Cx} {c : Ct} {W : WX} {a b e : Expr} {da db de : DE} {p p2 pos pos2 : Pos}
/-- list(range(i, j)) -/
def fRgL (r : Bool) (i j : Int) (st : Store) : Res AV := bif bnd i && bnd j && Nat.ble (j - i).toNat 1000000 then newL r (rangeL i (j - i).toNat) st else .bad
theorem rg_avls {F : Fix} {m : Nat → Addr} {N : Nat} {H : Hp} (i j : Int) : AVls0 F m N H (rangeL i (j - i).toNat) (rgV i j) := by
  unfold rangeL rgV
  generalize List.range (j - i).toNat = l
  induction l with
  | nil => exact .nil
  | cons x l ih => exact .cons (.v (.int _)) ih
theorem rg_ok (r : Bool) {F : Fix} {m : Nat → Addr} {st : Store} {S : Slots} {σ : St} {H : Hp} {Q : VK} {i j : Int} (R : Rel F m st S σ H) (P : PostE rV W F m st.length H S σ (fRgL r i j st) Q) : RgOk i j ∧ ∀ q, H q = none → Q (.ref q) (upd H q (.lst (rgV i j))) := by
  unfold fRgL at P
  cases q : bnd i && bnd j && Nat.ble (j - i).toNat 1000000 with
  | false => rw [q] at P; exact P.elim
  | true =>
    rw [q] at P
    rw [Bool.and_eq_true, Bool.and_eq_true] at q
    have h1 := bnd_ok q.1.1
    have h2 := bnd_ok q.1.2
    have h3 := Nat.le_of_ble_eq_true q.2
    exact ⟨⟨h1.1, h1.2, h2.1, h2.2, Nat.le_trans h3 (by decide)⟩, fun q hq => newL_ok R hq (rg_avls i j) P⟩
def dListRg2 (r : Bool) (da db : DE) : DE := fun S st => (da S st).then fun x st1 => (db S st1).then fun y st2 => match fInts x, fInts y with
  | some i, some j => fRgL r i j st2
  | _, _ => .bad
theorem pea_listRg2 (r : Bool) (cn : Cn X c) (hm : X.mg "list" = none) (hm2 : X.mg "range" = none) (ha : PEA X c W a da) (hb : PEA X c W b db) (hg : Gl X "list" := by rfl) (hg2 : Gl X "range" := by rfl)
    (n1 : starEach [.Call (.Name "range" p2) [a, b] [] pos2] X.env = (false, eval (.Call (.Name "range" p2) [a, b] [] pos2) X.env) :: starEach [] X.env := by rfl) (n2 : starEach [a, b] X.env = (false, eval a X.env) :: starEach [b] X.env := by rfl)
    (n3 : starEach [b] X.env = (false, eval b X.env) :: starEach [] X.env := by rfl) (n4 : (backTo pos2 (starEach [b] X.env)).any (·.1) = false := by rfl) :
    PEA X c W (.Call (.Name "list" p) [.Call (.Name "range" p2) [a, b] [] pos2] [] pos) (dListRg2 r da db) := (pe_listRg cn.calm hg hm (prg_2 hg2 hm2 ha hb n2 n3 n4) n1).imp fun σ H Q ⟨F, m, s, S, hc, R, P⟩ =>
  ⟨F, m, s, S, hc, R, (PostE.bind P).imp fun v H1 ⟨m1, s1, x, _, a1, R1, r1, P1⟩ => ⟨F, m1, s1, S, hc, R1, (PostE.bind P1).imp fun w H2 ⟨m2, s2, y, _, a2, R2, r2, P2⟩ => by
    have r1 := AVal.step a2 r1
    cases q1 : fInts x with
    | none => rw [q1] at P2; exact P2.elim
    | some i =>
      cases q2 : fInts y with
      | none => rw [q1, q2] at P2; exact P2.elim
      | some j =>
        rw [q1, q2] at P2
        exact ⟨i, j, fInts_ok r1 q1, fInts_ok r2 q2, rg_ok r R2 P2⟩⟩⟩
def dListRg1 (r : Bool) (da : DE) : DE := fun S st => (da S st).then fun x st1 => match fInts x with
  | some j => fRgL r 0 j st1
  | _ => .bad
theorem pea_listRg1 (r : Bool) (cn : Cn X c) (hm : X.mg "list" = none) (hm2 : X.mg "range" = none) (ha : PEA X c W a da) (hg : Gl X "list" := by rfl) (hg2 : Gl X "range" := by rfl)
    (n1 : starEach [.Call (.Name "range" p2) [a] [] pos2] X.env = (false, eval (.Call (.Name "range" p2) [a] [] pos2) X.env) :: starEach [] X.env := by rfl) (n2 : starEach [a] X.env = (false, eval a X.env) :: starEach [] X.env := by rfl) :
    PEA X c W (.Call (.Name "list" p) [.Call (.Name "range" p2) [a] [] pos2] [] pos) (dListRg1 r da) := (pe_listRg cn.calm hg hm (prg_1 hg2 hm2 ha n2) n1).imp fun σ H Q ⟨F, m, s, S, hc, R, P⟩ =>
  ⟨F, m, s, S, hc, R, (PostE.bind P).imp fun v H1 ⟨m1, s1, x, _, a1, R1, r1, P1⟩ => by
    cases q1 : fInts x with
    | none => rw [q1] at P1; exact P1.elim
    | some i =>
      rw [q1] at P1
      exact ⟨i, fInts_ok r1 q1, rg_ok r R1 P1⟩⟩
end
/-! ### list(reversed(xs)) -/
section
variable {prog : Program} {w : World} {A0 : Around} {E : Value → Shared → Prop} {s : Shared}
/-- the new list S drawn full from the iterator -/
theorem fill_rev {K : Result → Shared → Prop} {it l S : Addr} {c0 : Nat} {items : Array Value} (quiet : A0.handled = none) (hit : s.heap.IsRevIter it l ((items.size : Int) - 1)) (hl : s.heap.IsList l items) (ne : l ≠ it) (few : items.size ≤ sizeLine) (nS : S ≠ it) (nl : S ≠ l)
    (new : s.heap.get? S = some { cls := .type "list", data := .seq #[] c0 })
    (done : ∀ (g : Heap) (tk : Nat) (got : Array Value) (c1 : Nat), (∀ b o, b ≠ S → b ≠ it → s.heap.get? b = some o → g.get? b = some o) → g.get? S = some { cls := .type "list", dict := none, data := .seq got c1, slots := #[] } →
      ItemsOf (fun i v => items[items.size - 1 - i]? = some v) got items.size → K (.ok (.ret .none)) { s with heap := g, toks := tk }) :
    wpAny (model prog w) A0.in1 (Builtin.List.listExtendWith (.ref S) (.ref it) .none)
      (fun fin s' => match fin with | .done f => K (.ok f) s' | .again c' => c'.quiet = true ∧ codeAny (model prog w) A0 c' K s') (fun e s' => K (.error e) s') s := by
  have walk := (Walks.listRev (prog := prog) (w := w) (A := A0.in1) quiet it l ne items).toS
  have ty : s.TypeIs (.ref it) "list_reverseiterator" := Heap.IsRevIter.typeIs hit
  have two : S ∉ [it, l] := fun z => (List.mem_cons.mp z).elim nS fun z => nl (List.mem_singleton.mp z)
  have other : Builtin.List.listSameRef (.ref S) (.ref it) = false := by simp [Builtin.List.listSameRef, nS]
  have zero : (items.size : Int) - 1 - ((0 : Nat) : Int) = (items.size : Int) - 1 := by omega
  unfold Builtin.List.listExtendWith
  apply wpAny_bind; apply wpAny_typeOf ty
  rw [if_neg (by rw [other]; decide)]
  apply wpAny_bind; apply wpAny_pyIter_revIter hit
  apply wpAny_bind; apply wpAny_holding
  unfold Builtin.List.listLengthHint
  apply wpAny_bind; apply wpAny_specialOf ty RT.nolen_lri
  show wpAny _ A0.in1 (specialOf (Value.ref it) (Str.ofString "__length_hint__") >>= _) _ _ _
  apply wpAny_bind; apply wpAny_specialOf ty RT.hint_lri
  generalize ei : ("list_reverseiterator.__length_hint__" : String) = mark
  wp_delta
  rw [show splitId mark = some ("list_reverseiterator", "__length_hint__") from by subst ei; decide +kernel]
  subst ei
  apply wpAny_bind; apply wpAny_isInstance (b := true) ty (by rw [isSubtype_type]; kernel_rfl)
  apply wpAny_pure
  rw [if_neg (by decide)]
  refine wpAny_pure ⟨plainId_quiet F.plain_extend_loop _, codeAny_extend_loopS walk few _ two _ items.size 0 _ _ _ rfl (Nat.zero_le _) ⟨Nat.zero_le _, by rw [zero]; exact hit, hl⟩ new (ItemsOf.nil _) fun s' got c1 mv end_ full => ?_⟩
  rw [Moved.eq_with mv]
  refine done s'.heap s'.toks got c1 (fun b o h1 h2 e => mv.heap b o (fun z => ?_) e) end_ full
  rcases List.mem_cons.mp z with z | z
  · exact h1 z
  · exact h2 (List.mem_singleton.mp z)
theorem call_list_rev {it l : Addr} {items : Array Value} {Q : Value → Shared → Prop} (quiet : A0.handled = none) (hit : s.heap.IsRevIter it l ((items.size : Int) - 1)) (hl : s.heap.IsList l items) (ne : l ≠ it) (few : items.size ≤ sizeLine)
    (done : ∀ (g : Heap) (tk : Nat) (got : Array Value) (c1 : Nat), (∀ b o, b ≠ it → s.heap.get? b = some o → g.get? b = some o) → g.get? s.heap.objs.size = some { cls := .type "list", dict := none, data := .seq got c1, slots := #[] } →
      ItemsOf (fun i v => items[items.size - 1 - i]? = some v) got items.size → Q (.ref s.heap.objs.size) { s with heap := g, toks := tk }) :
    wpAny (model prog w) A0 (call (.type "list") [.ref it]) Q E s := by
  refine callType_codes (Q₁ := fun v s1 => v = .ref s.heap.objs.size ∧ s1 = { s with heap := s.heap.push { cls := .type "list", data := .seq #[] } }) F.called_list (F.typeCall_list_1 _) F.entry_list_init (code_list_new _ ⟨rfl, rfl⟩) fun v s1 made => ?_
  obtain ⟨rfl, rfl⟩ := made
  have new : (s.heap.push { cls := .type "list", data := .seq #[] }).get? s.heap.objs.size = some { cls := .type "list", data := .seq #[] } := Heap.get?_push_size _ rfl
  have lit : it < s.heap.objs.size := by
    obtain ⟨o, ho, _⟩ := hit
    exact Heap.lt_size ho
  have ll : l < s.heap.objs.size := by
    obtain ⟨o, ho, _⟩ := id hl
    exact Heap.lt_size ho
  refine ⟨⟨_, new, rfl⟩, F.args_list_init_2 _ _, ?_⟩
  show wpAny _ _ (do let old ← Builtin.List.listItems (.ref s.heap.objs.size); Builtin.List.listUpdate (.ref s.heap.objs.size) (fun _ => #[]); letGo old.toList.reverse; Builtin.List.listExtendWith (.ref s.heap.objs.size) (.ref it) .none) _ _ _
  apply wpAny_bind
  unfold Builtin.List.listItems
  refine wpAny_bind (wpAny_seqItems new rfl (wpAny_pure ?_))
  show wpAny _ _ (updateSeq s.heap.objs.size (fun _ => #[]) >>= fun _ => letGo (#[] : Array Value).toList.reverse >>= fun _ => Builtin.List.listExtendWith (.ref s.heap.objs.size) (.ref it) .none) _ _ _
  apply wpAny_bind; apply wpAny_updateSeq new rfl
  have new2 := Heap.get?_update_self (Obj.mapSeq (fun _ => (#[] : Array Value))) new rfl
  have rest : ∀ b o, b ≠ s.heap.objs.size → s.heap.get? b = some o → ((s.heap.push { cls := .type "list", data := .seq #[] }).update s.heap.objs.size (Obj.mapSeq (fun _ => (#[] : Array Value)))).get? b = some o :=
    fun b o n e => (Heap.get?_update_other _ _ (Ne.symm n)).trans (Heap.get?_push_of_some _ e)
  apply wpAny_bind; apply wpAny_letGo
  have hit2 : ((s.heap.push { cls := .type "list", data := .seq #[] }).update s.heap.objs.size (Obj.mapSeq (fun _ => (#[] : Array Value)))).IsRevIter it l ((items.size : Int) - 1) := hit.at fun o e => rest it o (Nat.ne_of_lt lit) e
  refine fill_rev (A0 := A0.in1) (s := { s with heap := (s.heap.push { cls := .type "list", data := .seq #[] }).update s.heap.objs.size (Obj.mapSeq (fun _ => (#[] : Array Value))) }) quiet hit2 ?_ ne few (Nat.ne_of_gt lit) (Nat.ne_of_gt ll) new2 fun g tk got c1 hk hS full => ?_
  · obtain ⟨o, ho, r⟩ := id hl
    exact ⟨o, rest l o (Nat.ne_of_lt ll) ho, r⟩
  · exact ⟨rfl, done g tk got c1 (fun b o n e => hk b o (Nat.ne_of_lt (Heap.lt_size e)) n (rest b o (Nat.ne_of_lt (Heap.lt_size e)) e)) hS full⟩
end
section
variable {X : Cx} {c : Ct} {W : WX} {e : Expr} {de : DE} {p p2 pos pos2 : Pos}
def tLstRev (K : PySem.W.Frag) (te : TE) : TE := fun σ H Q => te σ H fun v H1 => ∃ (a : Addr) (xs : List V), v = .ref a ∧ SqL K H1 a xs ∧ ∀ q, H1 q = none → Q (.ref q) (upd H1 q (.lst xs.reverse))
theorem pe_lstRev {te : TE} (hc : X.calm = true) (g1 : Gl X "list") (m1 : X.mg "list" = none) (g2 : Gl X "reversed") (m2 : X.mg "reversed" = none) (he : PE X e te) (n1 : starEach [e] X.env = (false, eval e X.env) :: starEach [] X.env := by rfl)
    (n2 : starEach [.Call (.Name "reversed" p2) [e] [] pos2] X.env = (false, eval (.Call (.Name "reversed" p2) [e] [] pos2) X.env) :: starEach [] X.env := by rfl) :
    PE X (.Call (.Name "list" p) [.Call (.Name "reversed" p2) [e] [] pos2] [] pos) (tLstRev X.K te) := by
  constructor
  intro pins s σ H Q I h
  have inner : ∀ R : Value → Shared → Prop, (∀ (s1 : Shared) (H1 : Hp) (a : Addr) (xs : List V) (its : List Value), Inv X pins σ H1 s1 → Vals xs its → s1.heap.IsList a its.toArray → xs.length ≤ sizeLine → (∀ q, H1 q = none → Q (.ref q) (upd H1 q (.lst xs.reverse))) →
      R (.ref s1.heap.objs.size) { s1 with heap := s1.heap.push (revObj a ((its.toArray.size : Int) - 1)) }) → wpAny (model X.prog X.w) X.A (eval (.Call (.Name "reversed" p2) [e] [] pos2) X.env) R X.xe s := fun R hR => by
    refine Call_ (ld_blt I g2 m2 PyProof.Rows.boot_reversed (PyProof.Rows.callWith_type1 (args_cons (thn (he.run pins s σ H _ I h) fun u s1 ⟨v, H1, I1, r1, q1⟩ => args_nil ?_) n1) n1 rfl))
    obtain ⟨a, xs, ev, hq, q⟩ := q1
    subst ev
    obtain rfl : u = Value.ref a := r1
    obtain ⟨its, rv, p', hz⟩ := I1.list hq
    exact call_reversed_list p'.isList (hR s1 H1 a xs its I1 rv p'.isList hz q)
  refine Call_ (ld_blt I g1 m1 boot_list (PyProof.Rows.callWith_type1 (args_cons (inner _ fun s1 H1 a xs its I1 rv hl hz q => args_nil ?_) n2) n2 rfl))
  have I2 : Inv X pins σ H1 { s1 with heap := s1.heap.push (revObj a ((its.toArray.size : Int) - 1)) } := I1.kept (t' := s1.toks) fun b o e => Heap.get?_push_of_some _ e
  obtain ⟨f0, f1, f2, f3, f4, f5⟩ := I1.fpOk (H' := H1) (b := s1.heap.objs.size) (Nat.le_refl _) (I1.hok.fresh (Nat.le_refl _))
  have far : a ≠ s1.heap.objs.size := by
    obtain ⟨o, ho, _⟩ := id hl
    exact Nat.ne_of_lt (Heap.lt_size ho)
  have hO := I1.hok.fresh (Nat.le_refl s1.heap.objs.size)
  refine call_list_rev (s := { s1 with heap := s1.heap.push (revObj a ((its.toArray.size : Int) - 1)) }) (I1.ok.hd hc) ⟨_, Heap.get?_push_size _ rfl, rfl, rfl⟩ (hl.push _) far (by rw [List.size_toArray, ← rv.length]; exact hz) fun g tk got c1 hk hS full => ?_
  generalize hb : s1.heap.push (revObj a ((its.toArray.size : Int) - 1)) = h2 at *
  have hn : H1 h2.objs.size = none := I2.hok.fresh (Nat.le_refl _)
  have S1 : (h2.push { cls := .type "list", dict := none, data := .seq got c1, slots := #[] }).get? h2.objs.size = some { cls := .type "list", dict := none, data := .seq got c1, slots := #[] } := Heap.get?_push_size _ rfl
  have I3 : Inv X pins σ (upd H1 h2.objs.size (.lst xs.reverse)) { s1 with heap := h2.push { cls := .type "list", dict := none, data := .seq got c1, slots := #[] }, toks := tk } :=
    I2.laid (t' := tk) (fun b o e => Heap.get?_push_of_some _ e) (Nat.le_refl _) (show ObjOk X.prog X.w _ _ _ (.lst xs.reverse) from ⟨by rw [List.length_reverse]; exact hz, got.toList, c1, RT.vals_rev rv full, by rw [Array.toArray_toList]; exact S1⟩)
  have hi2 : s1.heap.objs.size ≠ h2.objs.size := by rw [← hb, Heap.size_push]; exact Nat.ne_of_lt (Nat.lt_succ_self _)
  have I4 : Inv X pins σ (upd H1 h2.objs.size (.lst xs.reverse)) { s1 with heap := g, toks := tk } := by
    have keep : ∀ b o, b ≠ s1.heap.objs.size → (h2.push { cls := .type "list", dict := none, data := .seq got c1, slots := #[] }).get? b = some o → g.get? b = some o := fun b o n e => by
      rcases Heap.get?_push_cases e with ⟨rfl, rfl⟩ | e
      · exact hS
      · exact hk b o n e
    exact Inv.turned (s := { s1 with heap := h2.push { cls := .type "list", dict := none, data := .seq got c1, slots := #[] }, toks := tk }) I3 (h' := g) (it := s1.heap.objs.size) (t' := tk) keep (by rw [upd_ne hi2]; exact f0) f1 f3 f4 f5
  exact ⟨.ref _, _, I4, rfl, q _ hn⟩
def dLstRev (r : Bool) (de : DE) : DE := fun S st => (de S st).then fun x st1 => match listOf st1 x with
  | some xs => newL r xs.reverse st1
  | none => .bad
theorem pea_lstRev (r : Bool) (cn : Cn X c) (m1 : X.mg "list" = none) (m2 : X.mg "reversed" = none) (he : PEA X c W e de) (g1 : Gl X "list" := by rfl) (g2 : Gl X "reversed" := by rfl) (n1 : starEach [e] X.env = (false, eval e X.env) :: starEach [] X.env := by rfl)
    (n2 : starEach [.Call (.Name "reversed" p2) [e] [] pos2] X.env = (false, eval (.Call (.Name "reversed" p2) [e] [] pos2) X.env) :: starEach [] X.env := by rfl) :
    PEA X c W (.Call (.Name "list" p) [.Call (.Name "reversed" p2) [e] [] pos2] [] pos) (dLstRev r de) := (pe_lstRev cn.calm g1 m1 g2 m2 he n1 n2).imp fun σ H Q ⟨F, m, s, S, hc, R, P⟩ =>
  ⟨F, m, s, S, hc, R, (PostE.bind P).imp fun v H1 ⟨m1, s1, x, _, a1, R1, r1, P1⟩ => by
    cases q : listOf s1 x with
    | none => rw [q] at P1; exact P1.elim
    | some xs =>
      rw [q] at P1
      obtain ⟨a, vs, rfl, ha, rr⟩ := listOf_ok R1 r1 q
      exact ⟨a, vs, rfl, SqL.of ha, fun q hq => newL_ok R1 hq (pairedRev rr) P1⟩⟩
end
end A

/-! The A-layer, part 13: names unpacked from a tuple or a list. -/
namespace A
open PySem PySem.Spec PyProof.Rows L2
theorem _root_.L2.PG.or {X : Cx} {e : Expr} {t t' : TG} (h : PG X e t) (h' : PG X e t') : PG X e fun v σ H Q => t v σ H Q ∨ t' v σ H Q := ⟨fun pins s σ H v u Q I r hw => hw.elim (h.run pins s σ H v u Q I r) (h'.run pins s σ H v u Q I r)⟩
section
variable {X : Cx} {c : Ct} {es : List Expr} {pos : Pos}
def unP : AV → Option (List PV)
  | .v (.tup ps) _ => some ps
  | .v (.lst _ ps) _ => some ps
  | _ => none
def gU (n : Nat) (ds : DGs) : DG := fun x S => match unP x with
  | some ps => bif Nat.beq ps.length n then ds (ps.map (AV.v · false)) S else none
  | none => none
theorem pga_un {is : List Nat} {k n : Nat} {ds : DGs} (cn : Cn X c) (h : PGsA X c is es ds) (hn : (assignEach es X.env).length = n := by rfl) (hst : (assignEach es X.env).findIdx? (·.1) = none := by rfl) : PGA X c is (.Tuple es k pos) (gU n ds) :=
  ((pg_tup cn.calm h hn hst).or (pg_lst cn.calm h hn hst)).imp fun v σ H Q ⟨F, m, st, S, x, hc, R, rx, P⟩ => by
    cases q : unP x with
    | none => unfold gU at P; rw [q] at P; exact P.elim
    | some ps =>
      unfold gU at P
      rw [q] at P
      simp only at P
      cases q2 : Nat.beq ps.length n with
      | false => rw [q2] at P; exact P.elim
      | true =>
        rw [q2] at P
        have el := Nat.eq_of_beq_eq_true q2
        unfold unP at q
        split at q
        · cases q
          cases rx with
          | v rx f =>
          cases rx with
          | tup h1 h2 => exact .inl ⟨_, _, rfl, by rw [← cn.K, ← hc]; exact h1, by rw [← Vls.length h2]; exact el, F, m, st, S, _, hc, R, Vls.avls h2, P⟩
        · cases q
          cases rx with
          | v rx f =>
          cases rx with
          | lst h1 h0 h2 => exact .inr ⟨_, _, rfl, SqL.of h1, by rw [← Vls.length h2]; exact el, F, m, st, S, _, hc, R, Vls.avls h2, P⟩
        · cases q
end
end A

/-! plain lemmas for the laws' sides: sizes of ints -/
namespace A
open PySem PySem.Spec PyProof.Rows L2
/-- at most n bits -/
def Sz (n : Nat) (i : Int) : Prop := i.natAbs < 2 ^ n
theorem Sz.mono {a b : Nat} {i : Int} (h : Sz a i) (l : a ≤ b) : Sz b i := Nat.lt_of_lt_of_le h (Nat.pow_le_pow_right (by decide) l)
theorem Sz.mul {a b : Nat} {i j : Int} (h : Sz a i) (k : Sz b j) : Sz (a + b) (i * j) := by
  unfold Sz at *
  rw [Int.natAbs_mul, Nat.pow_add]
  exact Nat.mul_lt_mul'' h k
theorem Sz.add {a : Nat} {i j : Int} (h : Sz a i) (k : Sz a j) : Sz (a + 1) (i + j) := by
  unfold Sz at *
  have := Int.natAbs_add_le i j
  rw [Nat.pow_succ]
  omega
theorem Sz.sub {a : Nat} {i j : Int} (h : Sz a i) (k : Sz a j) : Sz (a + 1) (i - j) := by
  unfold Sz at *
  have := Int.natAbs_sub_le i j
  rw [Nat.pow_succ]
  omega
theorem Sz.of_le {a : Nat} {i j : Int} (h : Sz a i) (k : j.natAbs ≤ i.natAbs) : Sz a j := Nat.lt_of_le_of_lt k h
theorem Sz.lit {n : Nat} {i : Int} (h : Nat.blt i.natAbs (2 ^ n) = true := by decide) : Sz n i := by
  unfold Sz
  have h2 : i.natAbs + 1 ≤ 2 ^ n := by simpa [Nat.blt] using h
  exact h2
theorem Sz.log {a : Nat} {i : Int} (h : Sz a i) : i.natAbs.log2 ≤ a := by
  by_cases z : i.natAbs = 0
  · rw [z]; simp
  · exact Nat.le_of_lt ((Nat.log2_lt z).mpr h)
theorem mulC_of {a b : Nat} {i j : Int} (h : Sz a i) (k : Sz b j) (l : a + b < 100000000 := by decide) : mulC i j = true := by
  unfold mulC
  have := h.log
  have := k.log
  exact decide_eq_true (by omega)
theorem fmod_pos {i j : Int} (h : 0 < j) : 0 ≤ i.fmod j ∧ i.fmod j < j := ⟨Int.fmod_nonneg_of_pos _ h, Int.fmod_lt_of_pos _ h⟩
theorem kB_ii : kitB "int" "int" = some true := by decide +kernel
theorem kB_ib : kitB "int" "bool" = some false := by decide +kernel
theorem kB_bb : kitB "bool" "bool" = some true := by decide +kernel
theorem kB_bi : kitB "bool" "int" = some true := by decide +kernel
theorem kB_tt : kitB "tuple" "tuple" = some true := by decide +kernel
theorem kB_ll : kitB "list" "list" = some true := by decide +kernel
theorem kB_ss : kitB "str" "str" = some true := by decide +kernel
theorem kB_dd : kitB "dict" "dict" = some true := by decide +kernel
theorem dSeq_assoc (a b c : DS) : dSeq (dSeq a b) c = dSeq a (dSeq b c) := by
  funext S st
  unfold dSeq
  cases a S st <;> rfl
def okF (r : A.Flow) : Bool := match r with
  | .rt (.v (.bl true) _) _ => true
  | _ => false
theorem okF_run {N : Nat} {d : DS} {ps : List PV} (h : okF (d (slots0 N (ps.map (AV.v · false))) []) = true) : ∃ fr, runP N d ps = .ok (.bl true) fr := by
  unfold okF at h
  unfold runP
  split at h
  · rename_i fr st e
    rw [e]
    exact ⟨fr, rfl⟩
  · cases h
def slotsOf (r : A.Flow) : Slots := match r with
  | .nx S _ => S
  | _ => []
/-- the slots as they stand, the first one named -/
def hold8 (a : Option AV) (r : A.Flow) : A.Flow := .nx [a, (slotsOf r).getD 1 none, (slotsOf r).getD 2 none, (slotsOf r).getD 3 none, (slotsOf r).getD 4 none, (slotsOf r).getD 5 none, (slotsOf r).getD 6 none, (slotsOf r).getD 7 none] []
theorem whole_nat {i : Int} {n : Nat} (h0 : 0 ≤ i) (h1 : i < n) : ∃ k : Nat, i = k ∧ k < n := ⟨i.toNat, by omega, by omega⟩
end A

namespace Law
open PySem PySem.Spec PyProof.Rows L2 A
def tb : Ty → Ty → Option Bool
  | .b x, .b y => kitB x y
  | _, _ => none
def cs : List Nat := []
/-- divisor(one, other) -/
def d_divisor : DS :=
  dSeq (dSet 0 (dB1 fAbs (dCons (dVar 0) (dNil))))
  (dSeq (dSet 1 (dB1 fAbs (dCons (dVar 1) (dNil))))
  (dSeq (dWhile (natSlot 1) (dB (dBin fGt (dVar 1) (dC (.int (0))))) (dSeq (dSet 2 (dBin fMod (dVar 0) (dVar 1)))
  (dSeq (dSet 0 (dVar 1))
  (dSet 1 (dVar 2)))))
  (dRet (dVar 0))))
def f_divisor : PDen := runP 3 d_divisor
def fr2 (p : Int × Int) : PV := .tup [.int p.1, .int p.2]
/-- lowest terms, by a gcd -/
def lowF (t b : Int) : Int × Int := bif decide (b < 0) then (t.fdiv (-(Int.gcd t b : Int)), b.fdiv (-(Int.gcd t b : Int))) else (t.fdiv (Int.gcd t b : Int), b.fdiv (Int.gcd t b : Int))
theorem gcd_mod (a b : Nat) (hb : 0 < b) : Nat.gcd b (a % b) = Nat.gcd a b := by
  rw [Nat.gcd_comm b, ← Nat.gcd_rec, Nat.gcd_comm]
abbrev euT : DT := dB (dBin fGt (dVar 1) (dC (.int (0))))
abbrev euB : DS := dSeq (dSet 2 (dBin fMod (dVar 0) (dVar 1))) (dSeq (dSet 0 (dVar 1)) (dSet 1 (dVar 2)))
theorem eu_loop : ∀ (n a b : Nat) (r : Option AV), b < n → ∃ r', whileN euT euB n [some (.v (.int a) false), some (.v (.int b) false), r] [] = .nx [some (.v (.int (Nat.gcd a b)) false), some (.v (.int 0) false), r'] [] := by
  intro n
  induction n with
  | zero => intro a b r h; omega
  | succ n ih =>
    intro a b r h
    by_cases hb : b = 0
    · subst hb
      exact ⟨r, by simp [whileN, runP, runI, slots0, A.strip, dRet, dRetN, Res.flow, Res.then, dBin, dI2, dVar, dC, fIx, okP, okV, freeze, L2.atI, L2.ixN, dSeq, dIf, dSet, dExpr, dB, dArg, dCons, dNil, callP, toPs, toP, PRes.res, dNext, dB1, fLen, lenOf, fAbs, fAdd, dAnd, dOr, dNot, dAndV, dOrV, dNotV, dBV, dIfE, dTup, dLst, newL, dAsg, gN, gT, gU, unP, gC, gE, dForE, forR, lstAt, turnsAt, dCompE, compR, isLst, dMeth, dMeth0, putL, itemsOf, fAppend, fExtend, fClear, fPop, fPopAt, fInsert, fReverse, fPut, dPut, fInts, dAug, dNeg, dPar, fInt, fMax2, fMin2, Nat.ble, dBreak, dCont, dComp, compL, noEx, wipeS, dYes, dRange1, dRange2, asI1, asI2, bnd, dItem, itemsV, dSlice, dPart, dNoPart, fSlice, A.cut, HT.sIx, A.listOf,  noBor, noBors, views, view, viewN, optAll]⟩
    · obtain ⟨r', e⟩ := ih b (a % b) (some (.v (.int (a % b : Nat)) false)) (by have := Nat.mod_lt a (y := b) (by omega); omega)
      rw [gcd_mod a b (by omega)] at e
      refine ⟨r', ?_⟩
      have hf : (a : Int).fmod b = ((a % b : Nat) : Int) := by rw [Int.fmod_eq_emod_of_nonneg _ (by omega)]; rfl
      have h0 : 0 < b := by omega
      rw [← e]
      simp [whileN, hb, h0, hf, runP, runI, slots0, A.strip, dRet, dRetN, Res.flow, Res.then, dBin, dI2, dVar, dC, fIx, okP, okV, freeze, L2.atI, L2.ixN, dSeq, dIf, dSet, dExpr, dB, dArg, dCons, dNil, callP, toPs, toP, PRes.res, dNext, dB1, fLen, lenOf, fAbs, fAdd, dAnd, dOr, dNot, dAndV, dOrV, dNotV, dBV, dIfE, dTup, dLst, newL, dAsg, gN, gT, gU, unP, gC, gE, dForE, forR, lstAt, turnsAt, dCompE, compR, isLst, dMeth, dMeth0, putL, itemsOf, fAppend, fExtend, fClear, fPop, fPopAt, fInsert, fReverse, fPut, dPut, fInts, dAug, dNeg, dPar, fInt, fMax2, fMin2, Nat.ble, dBreak, dCont, dComp, compL, noEx, wipeS, dYes, dRange1, dRange2, asI1, asI2, bnd, dItem, itemsV, dSlice, dPart, dNoPart, fSlice, A.cut, HT.sIx, A.listOf,  noBor, noBors, views, view, viewN, optAll]
def g_divisor : PDen := fun ps => match ps with
  | [.int a, .int b] => .ok (.int (Int.gcd a b)) false
  | ps => f_divisor ps
theorem m_divisor (a b : Int) : f_divisor [.int a, .int b] = .ok (.int (Int.gcd a b)) false := by
  obtain ⟨r', e⟩ := eu_loop (b.natAbs + 1) a.natAbs b.natAbs none (by omega)
  have ha : (if a < 0 then -a else a) = (a.natAbs : Int) := by split <;> omega
  have hb : (if b < 0 then -b else b) = (b.natAbs : Int) := by split <;> omega
  simp [f_divisor, d_divisor, ha, hb, dWhile, natSlot, e, Int.gcd, runP, runI, slots0, A.strip, dRet, dRetN, Res.flow, Res.then, dBin, dI2, dVar, dC, fIx, okP, okV, freeze, L2.atI, L2.ixN, dSeq, dIf, dSet, dExpr, dB, dArg, dCons, dNil, callP, toPs, toP, PRes.res, dNext, dB1, fLen, lenOf, fAbs, fAdd, dAnd, dOr, dNot, dAndV, dOrV, dNotV, dBV, dIfE, dTup, dLst, newL, dAsg, gN, gT, gU, unP, gC, gE, dForE, forR, lstAt, turnsAt, dCompE, compR, isLst, dMeth, dMeth0, putL, itemsOf, fAppend, fExtend, fClear, fPop, fPopAt, fInsert, fReverse, fPut, dPut, fInts, dAug, dNeg, dPar, fInt, fMax2, fMin2, Nat.ble, dBreak, dCont, dComp, compL, noEx, wipeS, dYes, dRange1, dRange2, asI1, asI2, bnd, dItem, itemsV, dSlice, dPart, dNoPart, fSlice, A.cut, HT.sIx, A.listOf,  noBor, noBors, views, view, viewN, optAll]
theorem g_divisor_eq : f_divisor = g_divisor := funext fun ps => by
  unfold g_divisor
  split
  · exact m_divisor _ _
  · rfl
/-- share(top, bottom) -/
def d_share : DS :=
  dSeq (dSet 2 (dCall 2 g_divisor (dCons (dVar 0) (dCons (dVar 1) (dNil)))))
  (dSeq (dIf (dB (dBin fLt (dVar 1) (dC (.int (0))))) (dSet 2 (dBin fSub (dC (.int (0))) (dVar 2))) (dNext))
  (dRet (dTup (dCons (dBin fDiv (dVar 0) (dVar 2)) (dCons (dBin fDiv (dVar 1) (dVar 2)) (dNil))))))
def f_share : PDen := runP 3 d_share
def g_share : PDen := fun ps => match ps with
  | [.int t, .int b] => bif decide (b = 0) then f_share ps else .ok (fr2 (lowF t b)) false
  | ps => f_share ps
theorem m_share (t b : Int) (hb : b ≠ 0) : f_share [.int t, .int b] = .ok (fr2 (lowF t b)) false := by
  have g0 : ¬ t.gcd b = 0 := by
    have := Int.gcd_pos_of_ne_zero_right t hb
    omega
  by_cases hn : b < 0
  · simp [f_share, d_share, g_divisor, hn, g0, hb, lowF, fr2, runP, runI, slots0, A.strip, dRet, dRetN, Res.flow, Res.then, dBin, dI2, dVar, dC, fIx, okP, okV, freeze, L2.atI, L2.ixN, dSeq, dIf, dSet, dExpr, dB, dArg, dCons, dNil, callP, toPs, toP, PRes.res, dNext, dB1, fLen, lenOf, fAbs, fAdd, dAnd, dOr, dNot, dAndV, dOrV, dNotV, dBV, dIfE, dTup, dLst, newL, dAsg, gN, gT, gU, unP, gC, gE, dForE, forR, lstAt, turnsAt, dCompE, compR, isLst, dMeth, dMeth0, putL, itemsOf, fAppend, fExtend, fClear, fPop, fPopAt, fInsert, fReverse, fPut, dPut, fInts, dAug, dNeg, dPar, fInt, fMax2, fMin2, Nat.ble, dBreak, dCont, dComp, compL, noEx, wipeS, dYes, dRange1, dRange2, asI1, asI2, bnd, dItem, itemsV, dSlice, dPart, dNoPart, fSlice, A.cut, HT.sIx, A.listOf,  noBor, noBors, views, view, viewN, optAll]
  · simp [f_share, d_share, g_divisor, hn, g0, hb, lowF, fr2, runP, runI, slots0, A.strip, dRet, dRetN, Res.flow, Res.then, dBin, dI2, dVar, dC, fIx, okP, okV, freeze, L2.atI, L2.ixN, dSeq, dIf, dSet, dExpr, dB, dArg, dCons, dNil, callP, toPs, toP, PRes.res, dNext, dB1, fLen, lenOf, fAbs, fAdd, dAnd, dOr, dNot, dAndV, dOrV, dNotV, dBV, dIfE, dTup, dLst, newL, dAsg, gN, gT, gU, unP, gC, gE, dForE, forR, lstAt, turnsAt, dCompE, compR, isLst, dMeth, dMeth0, putL, itemsOf, fAppend, fExtend, fClear, fPop, fPopAt, fInsert, fReverse, fPut, dPut, fInts, dAug, dNeg, dPar, fInt, fMax2, fMin2, Nat.ble, dBreak, dCont, dComp, compL, noEx, wipeS, dYes, dRange1, dRange2, asI1, asI2, bnd, dItem, itemsV, dSlice, dPart, dNoPart, fSlice, A.cut, HT.sIx, A.listOf,  noBor, noBors, views, view, viewN, optAll]
theorem g_share_eq : f_share = g_share := funext fun ps => by
  unfold g_share
  split
  · rename_i t b
    by_cases hb : b = 0
    · simp [hb]
    · simp [hb, m_share t b hb]
  · rfl
/-- whole(number) -/
def d_whole : DS :=
  dRet (dTup (dCons (dVar 0) (dCons (dC (.int (1))) (dNil))))
def f_whole : PDen := runP 1 d_whole
/-- plus(one, other) -/
def d_plus : DS :=
  dRet (dCall 2 g_share (dCons (dBin (fAdd false) (dBin fMul (dBin fIx (dVar 0) (dC (.int (0)))) (dBin fIx (dVar 1) (dC (.int (1))))) (dBin fMul (dBin fIx (dVar 1) (dC (.int (0)))) (dBin fIx (dVar 0) (dC (.int (1)))))) (dCons (dBin fMul (dBin fIx (dVar 0) (dC (.int (1)))) (dBin fIx (dVar 1) (dC (.int (1))))) (dNil))))
def f_plus : PDen := runP 2 d_plus
def g_plus : PDen := fun ps => match ps with
  | [.tup [.int a, .int b], .tup [.int c, .int d]] => bif mulC a d && mulC c b && mulC b d && !decide (b * d = 0) then .ok (fr2 (lowF (a * d + c * b) (b * d))) false else f_plus ps
  | ps => f_plus ps
theorem m_plus {a b c d : Int} (h : (mulC a d && mulC c b && mulC b d && !decide (b * d = 0)) = true) : f_plus [.tup [.int a, .int b], .tup [.int c, .int d]] = .ok (fr2 (lowF (a * d + c * b) (b * d))) false := by
  simp only [Bool.and_eq_true, decide_eq_true_eq, Bool.not_eq_true', decide_eq_false_iff_not] at h
  simp [f_plus, d_plus, g_share, h, runP, runI, slots0, A.strip, dRet, dRetN, Res.flow, Res.then, dBin, dI2, dVar, dC, fIx, okP, okV, freeze, L2.atI, L2.ixN, dSeq, dIf, dSet, dExpr, dB, dArg, dCons, dNil, callP, toPs, toP, PRes.res, dNext, dB1, fLen, lenOf, fAbs, fAdd, dAnd, dOr, dNot, dAndV, dOrV, dNotV, dBV, dIfE, dTup, dLst, newL, dAsg, gN, gT, gU, unP, gC, gE, dForE, forR, lstAt, turnsAt, dCompE, compR, isLst, dMeth, dMeth0, putL, itemsOf, fAppend, fExtend, fClear, fPop, fPopAt, fInsert, fReverse, fPut, dPut, fInts, dAug, dNeg, dPar, fInt, fMax2, fMin2, Nat.ble, dBreak, dCont, dComp, compL, noEx, wipeS, dYes, dRange1, dRange2, asI1, asI2, bnd, dItem, itemsV, dSlice, dPart, dNoPart, fSlice, A.cut, HT.sIx, A.listOf,  noBor, noBors, views, view, viewN, optAll]
theorem g_plus_eq : f_plus = g_plus := funext fun ps => by
  unfold g_plus
  split
  · rename_i a b c d
    cases h : (mulC a d && mulC c b && mulC b d && !decide (b * d = 0)) with
    | true => exact m_plus h
    | false => rfl
  · rfl
/-- times(one, other) -/
def d_times : DS :=
  dRet (dCall 2 g_share (dCons (dBin fMul (dBin fIx (dVar 0) (dC (.int (0)))) (dBin fIx (dVar 1) (dC (.int (0))))) (dCons (dBin fMul (dBin fIx (dVar 0) (dC (.int (1)))) (dBin fIx (dVar 1) (dC (.int (1))))) (dNil))))
def f_times : PDen := runP 2 d_times
def g_times : PDen := fun ps => match ps with
  | [.tup [.int a, .int b], .tup [.int c, .int d]] => bif mulC a c && mulC b d && !decide (b * d = 0) then .ok (fr2 (lowF (a * c) (b * d))) false else f_times ps
  | ps => f_times ps
theorem m_times {a b c d : Int} (h : (mulC a c && mulC b d && !decide (b * d = 0)) = true) : f_times [.tup [.int a, .int b], .tup [.int c, .int d]] = .ok (fr2 (lowF (a * c) (b * d))) false := by
  simp only [Bool.and_eq_true, decide_eq_true_eq, Bool.not_eq_true', decide_eq_false_iff_not] at h
  simp [f_times, d_times, g_share, h, runP, runI, slots0, A.strip, dRet, dRetN, Res.flow, Res.then, dBin, dI2, dVar, dC, fIx, okP, okV, freeze, L2.atI, L2.ixN, dSeq, dIf, dSet, dExpr, dB, dArg, dCons, dNil, callP, toPs, toP, PRes.res, dNext, dB1, fLen, lenOf, fAbs, fAdd, dAnd, dOr, dNot, dAndV, dOrV, dNotV, dBV, dIfE, dTup, dLst, newL, dAsg, gN, gT, gU, unP, gC, gE, dForE, forR, lstAt, turnsAt, dCompE, compR, isLst, dMeth, dMeth0, putL, itemsOf, fAppend, fExtend, fClear, fPop, fPopAt, fInsert, fReverse, fPut, dPut, fInts, dAug, dNeg, dPar, fInt, fMax2, fMin2, Nat.ble, dBreak, dCont, dComp, compL, noEx, wipeS, dYes, dRange1, dRange2, asI1, asI2, bnd, dItem, itemsV, dSlice, dPart, dNoPart, fSlice, A.cut, HT.sIx, A.listOf,  noBor, noBors, views, view, viewN, optAll]
theorem g_times_eq : f_times = g_times := funext fun ps => by
  unfold g_times
  split
  · rename_i a b c d
    cases h : (mulC a c && mulC b d && !decide (b * d = 0)) with
    | true => exact m_times h
    | false => rfl
  · rfl
/-- below(one, other) -/
def d_below : DS :=
  dRet (dBin fLt (dBin fMul (dBin fIx (dVar 0) (dC (.int (0)))) (dBin fIx (dVar 1) (dC (.int (1))))) (dBin fMul (dBin fIx (dVar 1) (dC (.int (0)))) (dBin fIx (dVar 0) (dC (.int (1))))))
def f_below : PDen := runP 2 d_below
def g_below : PDen := fun ps => match ps with
  | [.tup [.int a, .int b], .tup [.int c, .int d]] => bif mulC a d && mulC c b then .ok (.bl (decide (a * d < c * b))) false else f_below ps
  | ps => f_below ps
theorem m_below {a b c d : Int} (h : (mulC a d && mulC c b) = true) : f_below [.tup [.int a, .int b], .tup [.int c, .int d]] = .ok (.bl (decide (a * d < c * b))) false := by
  simp only [Bool.and_eq_true, decide_eq_true_eq, Bool.not_eq_true', decide_eq_false_iff_not] at h
  simp [f_below, d_below, h, runP, runI, slots0, A.strip, dRet, dRetN, Res.flow, Res.then, dBin, dI2, dVar, dC, fIx, okP, okV, freeze, L2.atI, L2.ixN, dSeq, dIf, dSet, dExpr, dB, dArg, dCons, dNil, callP, toPs, toP, PRes.res, dNext, dB1, fLen, lenOf, fAbs, fAdd, dAnd, dOr, dNot, dAndV, dOrV, dNotV, dBV, dIfE, dTup, dLst, newL, dAsg, gN, gT, gU, unP, gC, gE, dForE, forR, lstAt, turnsAt, dCompE, compR, isLst, dMeth, dMeth0, putL, itemsOf, fAppend, fExtend, fClear, fPop, fPopAt, fInsert, fReverse, fPut, dPut, fInts, dAug, dNeg, dPar, fInt, fMax2, fMin2, Nat.ble, dBreak, dCont, dComp, compL, noEx, wipeS, dYes, dRange1, dRange2, asI1, asI2, bnd, dItem, itemsV, dSlice, dPart, dNoPart, fSlice, A.cut, HT.sIx, A.listOf,  noBor, noBors, views, view, viewN, optAll]
theorem g_below_eq : f_below = g_below := funext fun ps => by
  unfold g_below
  split
  · rename_i a b c d
    cases h : (mulC a d && mulC c b) with
    | true => exact m_below h
    | false => rfl
  · rfl
/-- adds_up(worth, rows) -/
def d_adds_up : DS :=
  dSeq (dSet 2 (dCall 1 f_whole (dCons (dC (.int (0))) (dNil))))
  (dSeq (dSet 3 (dVar 2))
  (dSeq (dSet 4 (dVar 2))
  (dSeq (dForE (dVar 1) (gU 5 (gC (gN 5) (gC (gN 6) (gC (gN 7) (gC (gN 8) (gC (gN 9) (gE))))))) (dSeq (dIf (dOr (dNot (dB (dCall 2 g_below (dCons (dVar 2) (dCons (dVar 6) (dNil)))))) (dOr (dB (dCall 2 g_below (dCons (dVar 8) (dCons (dVar 2) (dNil))))) (dB (dCall 2 g_below (dCons (dVar 9) (dCons (dVar 2) (dNil))))))) (dRet (dC (.bl false))) (dNext))
  (dSeq (dSet 3 (dCall 2 g_plus (dCons (dVar 3) (dCons (dVar 6) (dNil)))))
  (dSet 4 (dCall 2 g_plus (dCons (dVar 4) (dCons (dCall 2 g_times (dCons (dVar 6) (dCons (dCall 2 g_plus (dCons (dCall 1 f_whole (dCons (dVar 7) (dNil))) (dCons (dCall 2 g_plus (dCons (dVar 8) (dCons (dVar 9) (dNil)))) (dNil)))) (dNil)))) (dNil))))))))
  (dRet (dAndV (dBin (fEq false) (dVar 3) (dCall 1 f_whole (dCons (dC (.int (1))) (dNil)))) (dBin (fEq false) (dVar 4) (dVar 0)))))))
def f_adds_up : PDen := runP 10 d_adds_up
/-- _law_cell_at(_law_script, _law_k) -/
def d__law_cell_at : DS :=
  dSeq (dSet 2 (dBin (fAdd false) (dBin fMul (dC (.int (104729))) (dVar 1)) (dC (.int (7)))))
  (dSeq (dIf (dB (dBin fLt (dVar 1) (dB1 fLen (dCons (dVar 0) (dNil))))) (dSet 2 (dBin fIx (dVar 0) (dVar 1))) (dNext))
  (dSeq (dSet 2 (dBin fMod (dBin (fAdd false) (dBin (fAdd false) (dBin fMul (dBin fMod (dVar 2) (dC (.int (2147483647)))) (dC (.int (48271)))) (dBin fMul (dC (.int (7919))) (dVar 1))) (dC (.int (1)))) (dC (.int (2147483647)))))
  (dSeq (dSet 2 (dBin fMod (dBin fMul (dVar 2) (dVar 2)) (dC (.int (2147483647)))))
  (dRet (dBin fMod (dBin (fAdd false) (dBin (fAdd false) (dBin fMul (dVar 2) (dVar 2)) (dBin fMul (dC (.int (7))) (dVar 2))) (dVar 1)) (dC (.int (2147483629))))))))
def f__law_cell_at : PDen := runP 3 d__law_cell_at
/-- _law_many(_law_script, _law_first, _law_most) -/
def d__law_many : DS :=
  dSeq (dSet 3 (dBin fMod (dBin fDiv (dCall 2 f__law_cell_at (dCons (dVar 0) (dCons (dBin fSub (dVar 1) (dC (.int (1)))) (dNil)))) (dC (.int (7)))) (dBin (fAdd false) (dVar 2) (dC (.int (1))))))
  (dRet (dB1 fMin2 (dCons (dVar 2) (dCons (dB1 fMax2 (dCons (dVar 3) (dCons (dBin fSub (dB1 fLen (dCons (dVar 0) (dNil))) (dVar 1)) (dNil)))) (dNil)))))
def f__law_many : PDen := runP 4 d__law_many
/-- _law_divisor(_law_one, _law_other) -/
def d__law_divisor : DS :=
  dSeq (dWhile (natSlot 1) (dB (dBin fGt (dVar 1) (dC (.int (0))))) (dPar 0 1 (dCons (dVar 1) (dCons (dBin fMod (dVar 0) (dVar 1)) (dNil)))))
  (dRet (dVar 0))
def f__law_divisor : PDen := runP 2 d__law_divisor
theorem eu2__law_divisor : ∀ (n a b : Nat) , b < n → whileN (dB (dBin fGt (dVar 1) (dC (.int (0))))) (dPar 0 1 (dCons (dVar 1) (dCons (dBin fMod (dVar 0) (dVar 1)) (dNil)))) n [some (.v (.int a) false), some (.v (.int b) false)] [] = .nx [some (.v (.int (Nat.gcd a b)) false), some (.v (.int 0) false)] [] := by
  intro n
  induction n with
  | zero => intro a b h; omega
  | succ n ih =>
    intro a b h
    by_cases hb : b = 0
    · subst hb
      simp [whileN, runP, runI, slots0, A.strip, dRet, dRetN, Res.flow, Res.then, dBin, dI2, dVar, dC, fIx, okP, okV, freeze, L2.atI, L2.ixN, dSeq, dIf, dSet, dExpr, dB, dArg, dCons, dNil, callP, toPs, toP, PRes.res, dNext, dB1, fLen, lenOf, fAbs, fAdd, dAnd, dOr, dNot, dAndV, dOrV, dNotV, dBV, dIfE, dTup, dLst, newL, dAsg, gN, gT, gU, unP, gC, gE, dForE, forR, lstAt, turnsAt, dCompE, compR, isLst, dMeth, dMeth0, putL, itemsOf, fAppend, fExtend, fClear, fPop, fPopAt, fInsert, fReverse, fPut, dPut, fInts, dAug, dNeg, dPar, fInt, fMax2, fMin2, Nat.ble, dBreak, dCont, dComp, compL, noEx, wipeS, dYes, dRange1, dRange2, asI1, asI2, bnd, dItem, itemsV, dSlice, dPart, dNoPart, fSlice, A.cut, HT.sIx, A.listOf,  noBor, noBors, views, view, viewN, optAll]
    · have e := ih b (a % b) (by have := Nat.mod_lt a (y := b) (by omega); omega)
      rw [gcd_mod a b (by omega)] at e
      have hf : (a : Int).fmod b = ((a % b : Nat) : Int) := by rw [Int.fmod_eq_emod_of_nonneg _ (by omega)]; rfl
      have h0 : 0 < b := by omega
      rw [← e]
      simp [whileN, hb, h0, hf, runP, runI, slots0, A.strip, dRet, dRetN, Res.flow, Res.then, dBin, dI2, dVar, dC, fIx, okP, okV, freeze, L2.atI, L2.ixN, dSeq, dIf, dSet, dExpr, dB, dArg, dCons, dNil, callP, toPs, toP, PRes.res, dNext, dB1, fLen, lenOf, fAbs, fAdd, dAnd, dOr, dNot, dAndV, dOrV, dNotV, dBV, dIfE, dTup, dLst, newL, dAsg, gN, gT, gU, unP, gC, gE, dForE, forR, lstAt, turnsAt, dCompE, compR, isLst, dMeth, dMeth0, putL, itemsOf, fAppend, fExtend, fClear, fPop, fPopAt, fInsert, fReverse, fPut, dPut, fInts, dAug, dNeg, dPar, fInt, fMax2, fMin2, Nat.ble, dBreak, dCont, dComp, compL, noEx, wipeS, dYes, dRange1, dRange2, asI1, asI2, bnd, dItem, itemsV, dSlice, dPart, dNoPart, fSlice, A.cut, HT.sIx, A.listOf,  noBor, noBors, views, view, viewN, optAll]
def g__law_divisor : PDen := fun ps => match ps with
  | [.int a, .int b] => bif decide (0 ≤ a) && decide (0 ≤ b) then .ok (.int (Int.gcd a b)) false else f__law_divisor ps
  | ps => f__law_divisor ps
theorem m__law_divisor (a b : Int) (ha : 0 ≤ a) (hb : 0 ≤ b) : f__law_divisor [.int a, .int b] = .ok (.int (Int.gcd a b)) false := by
  have e := eu2__law_divisor (b.natAbs + 1) a.natAbs b.natAbs (by omega)
  rw [show ((a.natAbs : Nat) : Int) = a by omega, show ((b.natAbs : Nat) : Int) = b by omega] at e
  simp [f__law_divisor, d__law_divisor, dWhile, natSlot, e, Int.gcd, runP, runI, slots0, A.strip, dRet, dRetN, Res.flow, Res.then, dBin, dI2, dVar, dC, fIx, okP, okV, freeze, L2.atI, L2.ixN, dSeq, dIf, dSet, dExpr, dB, dArg, dCons, dNil, callP, toPs, toP, PRes.res, dNext, dB1, fLen, lenOf, fAbs, fAdd, dAnd, dOr, dNot, dAndV, dOrV, dNotV, dBV, dIfE, dTup, dLst, newL, dAsg, gN, gT, gU, unP, gC, gE, dForE, forR, lstAt, turnsAt, dCompE, compR, isLst, dMeth, dMeth0, putL, itemsOf, fAppend, fExtend, fClear, fPop, fPopAt, fInsert, fReverse, fPut, dPut, fInts, dAug, dNeg, dPar, fInt, fMax2, fMin2, Nat.ble, dBreak, dCont, dComp, compL, noEx, wipeS, dYes, dRange1, dRange2, asI1, asI2, bnd, dItem, itemsV, dSlice, dPart, dNoPart, fSlice, A.cut, HT.sIx, A.listOf,  noBor, noBors, views, view, viewN, optAll]
theorem g__law_divisor_eq : f__law_divisor = g__law_divisor := funext fun ps => by
  unfold g__law_divisor
  split
  · rename_i a b
    by_cases ha : 0 ≤ a
    · by_cases hb : 0 ≤ b
      · simp [ha, hb, m__law_divisor a b ha hb]
      · simp [ha, hb]
    · simp [ha]
  · rfl
/-- _law_share(_law_top, _law_bottom) -/
def d__law_share : DS :=
  dSeq (dSet 2 (dCall 2 g__law_divisor (dCons (dVar 1) (dCons (dB1 fAbs (dCons (dVar 0) (dNil))) (dNil)))))
  (dRet (dTup (dCons (dBin fDiv (dVar 0) (dVar 2)) (dCons (dBin fDiv (dVar 1) (dVar 2)) (dNil)))))
def f__law_share : PDen := runP 3 d__law_share
def g__law_share : PDen := fun ps => match ps with
  | [.int t, .int b] => bif decide (0 < b) then .ok (fr2 (lowF t b)) false else f__law_share ps
  | ps => f__law_share ps
theorem m__law_share (t b : Int) (hb : 0 < b) : f__law_share [.int t, .int b] = .ok (fr2 (lowF t b)) false := by
  have g0 : ¬ t.gcd b = 0 := by
    have := Int.gcd_pos_of_ne_zero_right t (b := b) (by omega)
    omega
  have hn : ¬ b < 0 := by omega
  have h0 : ¬ b = 0 := by omega
  have h1 : 0 ≤ b := by omega
  have h2 : 0 ≤ (if t < 0 then -t else t) := by split <;> omega
  have h3 : Int.gcd b (if t < 0 then -t else t) = Int.gcd t b := by
    rw [Int.gcd_comm]
    split
    · exact Int.neg_gcd ..
    · rfl
  simp [f__law_share, d__law_share, g__law_divisor, hn, g0, h0, h1, h2, h3, lowF, fr2, runP, runI, slots0, A.strip, dRet, dRetN, Res.flow, Res.then, dBin, dI2, dVar, dC, fIx, okP, okV, freeze, L2.atI, L2.ixN, dSeq, dIf, dSet, dExpr, dB, dArg, dCons, dNil, callP, toPs, toP, PRes.res, dNext, dB1, fLen, lenOf, fAbs, fAdd, dAnd, dOr, dNot, dAndV, dOrV, dNotV, dBV, dIfE, dTup, dLst, newL, dAsg, gN, gT, gU, unP, gC, gE, dForE, forR, lstAt, turnsAt, dCompE, compR, isLst, dMeth, dMeth0, putL, itemsOf, fAppend, fExtend, fClear, fPop, fPopAt, fInsert, fReverse, fPut, dPut, fInts, dAug, dNeg, dPar, fInt, fMax2, fMin2, Nat.ble, dBreak, dCont, dComp, compL, noEx, wipeS, dYes, dRange1, dRange2, asI1, asI2, bnd, dItem, itemsV, dSlice, dPart, dNoPart, fSlice, A.cut, HT.sIx, A.listOf,  noBor, noBors, views, view, viewN, optAll]
theorem g__law_share_eq : f__law_share = g__law_share := funext fun ps => by
  unfold g__law_share
  split
  · rename_i t b
    by_cases hb : 0 < b
    · simp [hb, m__law_share t b hb]
    · simp [hb]
  · rfl
/-- _law_plus(_law_one, _law_other) -/
def d__law_plus : DS :=
  dRet (dCall 2 g__law_share (dCons (dBin (fAdd false) (dBin fMul (dBin fIx (dVar 0) (dC (.int (0)))) (dBin fIx (dVar 1) (dC (.int (1))))) (dBin fMul (dBin fIx (dVar 1) (dC (.int (0)))) (dBin fIx (dVar 0) (dC (.int (1)))))) (dCons (dBin fMul (dBin fIx (dVar 0) (dC (.int (1)))) (dBin fIx (dVar 1) (dC (.int (1))))) (dNil))))
def f__law_plus : PDen := runP 2 d__law_plus
def g__law_plus : PDen := fun ps => match ps with
  | [.tup [.int a, .int b], .tup [.int c, .int d]] => bif mulC a d && mulC c b && mulC b d && decide (0 < b * d) then .ok (fr2 (lowF (a * d + c * b) (b * d))) false else f__law_plus ps
  | ps => f__law_plus ps
theorem m__law_plus {a b c d : Int} (h : (mulC a d && mulC c b && mulC b d && decide (0 < b * d)) = true) : f__law_plus [.tup [.int a, .int b], .tup [.int c, .int d]] = .ok (fr2 (lowF (a * d + c * b) (b * d))) false := by
  simp only [Bool.and_eq_true, decide_eq_true_eq, Bool.not_eq_true', decide_eq_false_iff_not] at h
  simp [f__law_plus, d__law_plus, g__law_share, h, runP, runI, slots0, A.strip, dRet, dRetN, Res.flow, Res.then, dBin, dI2, dVar, dC, fIx, okP, okV, freeze, L2.atI, L2.ixN, dSeq, dIf, dSet, dExpr, dB, dArg, dCons, dNil, callP, toPs, toP, PRes.res, dNext, dB1, fLen, lenOf, fAbs, fAdd, dAnd, dOr, dNot, dAndV, dOrV, dNotV, dBV, dIfE, dTup, dLst, newL, dAsg, gN, gT, gU, unP, gC, gE, dForE, forR, lstAt, turnsAt, dCompE, compR, isLst, dMeth, dMeth0, putL, itemsOf, fAppend, fExtend, fClear, fPop, fPopAt, fInsert, fReverse, fPut, dPut, fInts, dAug, dNeg, dPar, fInt, fMax2, fMin2, Nat.ble, dBreak, dCont, dComp, compL, noEx, wipeS, dYes, dRange1, dRange2, asI1, asI2, bnd, dItem, itemsV, dSlice, dPart, dNoPart, fSlice, A.cut, HT.sIx, A.listOf,  noBor, noBors, views, view, viewN, optAll]
theorem g__law_plus_eq : f__law_plus = g__law_plus := funext fun ps => by
  unfold g__law_plus
  split
  · rename_i a b c d
    cases h : (mulC a d && mulC c b && mulC b d && decide (0 < b * d)) with
    | true => exact m__law_plus h
    | false => rfl
  · rfl
/-- _law_made(_law_script, _law_many_here) -/
def d__law_made : DS :=
  dSeq (dSet 2 (dComp false ([4]) (dRange1 (dCons (dVar 1) (dNil))) (gN 4) (dYes) (dBin (fAdd false) (dC (.int (1))) (dBin fMod (dCall 2 f__law_cell_at (dCons (dVar 0) (dCons (dBin (fAdd false) (dC (.int (3))) (dVar 4)) (dNil)))) (dBin fIx (dLst false (dCons (dC (.int (3))) (dCons (dC (.int (1000))) (dNil)))) (dBin fMod (dVar 4) (dC (.int (2)))))))))
  (dSeq (dSet 3 (dLst true (dNil)))
  (dSeq (dFor (dRange1 (dCons (dVar 1) (dNil))) (gN 4) (dSeq (dSet 5 (dCall 2 f__law_cell_at (dCons (dVar 0) (dCons (dBin (fAdd false) (dC (.int (3))) (dVar 4)) (dNil)))))
  (dSeq (dSet 6 (dCall 2 g__law_share (dCons (dBin fMul (dBin fMod (dBin fDiv (dVar 5) (dC (.int (1000)))) (dC (.int (4)))) (dBin fMod (dBin fDiv (dVar 5) (dC (.int (7)))) (dC (.int (1000))))) (dCons (dBin (fAdd false) (dC (.int (1))) (dBin fMod (dBin fDiv (dVar 5) (dC (.int (11)))) (dC (.int (60))))) (dNil)))))
  (dSeq (dSet 7 (dCall 2 g__law_share (dCons (dBin fMul (dBin fMod (dBin fDiv (dVar 5) (dC (.int (4000)))) (dC (.int (3)))) (dBin fMod (dBin fDiv (dVar 5) (dC (.int (13)))) (dBin fPow (dC (.int (10))) (dC (.int (6)))))) (dCons (dBin (fAdd false) (dC (.int (1))) (dBin fMod (dBin fDiv (dVar 5) (dC (.int (17)))) (dC (.int (60))))) (dNil)))))
  (dSeq (dSet 8 (dCall 2 g__law_share (dCons (dBin fIx (dVar 2) (dVar 4)) (dCons (dB1 fSum (dCons (dVar 2) (dNil))) (dNil)))))
  (dExpr (dMeth fAppend (dVar 3) (dCons (dLst true (dCons (dTup (dCons (dVar 4) (dCons (dBin fMod (dVar 5) (dC (.int (4)))) (dNil)))) (dCons (dVar 8) (dCons (dBin fSub (dBin fMod (dBin fMul (dVar 5) (dC (.int (7919)))) (dBin (fAdd false) (dBin fMul (dC (.int (2))) (dBin fPow (dC (.int (10))) (dC (.int (12))))) (dC (.int (1))))) (dBin fPow (dC (.int (10))) (dC (.int (12))))) (dCons (dVar 6) (dCons (dVar 7) (dNil))))))) (dNil)))))))))
  (dRet (dVar 3))))
def i__law_made : IDen := runI 9 d__law_made
/-- _law_worth(_law_rows) -/
def d__law_worth : DS :=
  dSeq (dSet 1 (dTup (dCons (dC (.int (0))) (dCons (dC (.int (1))) (dNil)))))
  (dSeq (dForE (dVar 0) (gU 5 (gC (gN 2) (gC (gN 3) (gC (gN 4) (gC (gN 5) (gC (gN 6) (gE))))))) (dSeq (dSet 7 (dCall 2 g__law_plus (dCons (dTup (dCons (dVar 4) (dCons (dC (.int (1))) (dNil)))) (dCons (dCall 2 g__law_plus (dCons (dVar 5) (dCons (dVar 6) (dNil)))) (dNil)))))
  (dSet 1 (dCall 2 g__law_plus (dCons (dVar 1) (dCons (dCall 2 g__law_share (dCons (dBin fMul (dBin fIx (dVar 3) (dC (.int (0)))) (dBin fIx (dVar 7) (dC (.int (0))))) (dCons (dBin fMul (dBin fIx (dVar 3) (dC (.int (1)))) (dBin fIx (dVar 7) (dC (.int (1))))) (dNil)))) (dNil)))))))
  (dRet (dVar 1)))
def f__law_worth : PDen := runP 8 d__law_worth
/-- _law_right(_law_rows, _law_top) -/
def d__law_right : DS :=
  dSeq (dSet 2 (dTup (dCons (dC (.int (0))) (dCons (dC (.int (1))) (dNil)))))
  (dSeq (dForE (dVar 0) (gU 5 (gC (gN 3) (gC (gN 4) (gC (gN 5) (gC (gN 6) (gC (gN 7) (gE))))))) (dSeq (dIf (dOr (dB (dBin fLt (dBin fIx (dVar 4) (dC (.int (0)))) (dC (.int (1))))) (dOr (dB (dBin fLt (dBin fIx (dVar 6) (dC (.int (0)))) (dC (.int (0))))) (dB (dBin fLt (dBin fIx (dVar 7) (dC (.int (0)))) (dC (.int (0))))))) (dRet (dC (.bl false))) (dNext))
  (dSet 2 (dCall 2 g__law_plus (dCons (dVar 2) (dCons (dVar 4) (dNil)))))))
  (dRet (dAndV (dBin (fEq false) (dVar 2) (dTup (dCons (dC (.int (1))) (dCons (dC (.int (1))) (dNil))))) (dBin (fEq false) (dCall 1 f__law_worth (dCons (dVar 0) (dNil))) (dVar 1)))))
def f__law_right : PDen := runP 8 d__law_right
def d__law_spoilt_t3 : DS :=
  dIf (dB (dBin (fEq false) (dVar 3) (dC (.int (1))))) (dPut (dCall 2 g__law_plus (dCons (dBin fIx (dBin fIx (dVar 0) (dVar 2)) (dC (.int (1)))) (dCons (dVar 4) (dNil)))) (dBin fIx (dVar 0) (dVar 2)) (dC (.int (1)))) (dIf (dB (dBin (fEq false) (dVar 3) (dC (.int (2))))) (dPut (dBin fIx (dLst false (dCons (dTup (dCons (dC (.int (0))) (dCons (dC (.int (1))) (dNil)))) (dCons (dTup (dCons (dNeg (dC (.int (1)))) (dCons (dC (.int (3))) (dNil)))) (dNil)))) (dBin fMod (dBin fDiv (dVar 1) (dC (.int (400)))) (dC (.int (2))))) (dBin fIx (dVar 0) (dVar 2)) (dC (.int (1)))) (dIf (dB (dBin (fEq false) (dVar 3) (dC (.int (3))))) (dExpr (dMeth fPopAt (dVar 0) (dCons (dVar 2) (dNil)))) (dIf (dB (dBin (fEq false) (dVar 3) (dC (.int (4))))) (dPut (dBin (fAdd false) (dBin fIx (dBin fIx (dVar 0) (dVar 2)) (dC (.int (2)))) (dC (.int (1)))) (dBin fIx (dVar 0) (dVar 2)) (dC (.int (2)))) (dIf (dOr (dB (dBin (fEq false) (dVar 3) (dC (.int (5))))) (dB (dBin (fEq false) (dVar 3) (dC (.int (6)))))) (dPut (dCall 2 g__law_plus (dCons (dBin fIx (dBin fIx (dVar 0) (dVar 2)) (dBin fSub (dVar 3) (dC (.int (2))))) (dCons (dVar 4) (dNil)))) (dBin fIx (dVar 0) (dVar 2)) (dBin fSub (dVar 3) (dC (.int (2))))) (dIf (dOr (dB (dBin (fEq false) (dVar 3) (dC (.int (7))))) (dB (dBin (fEq false) (dVar 3) (dC (.int (8)))))) (dSeq (dAsg (dBin fIx (dBin fIx (dVar 0) (dVar 2)) (dBin fSub (dVar 3) (dC (.int (4))))) (gU 2 (gC (gN 5) (gC (gN 6) (gE)))))
  (dSeq (dSet 7 (dBin (fAdd false) (dBin fDiv (dVar 5) (dVar 6)) (dC (.int (2)))))
  (dSeq (dPut (dBin (fAdd false) (dBin fIx (dBin fIx (dVar 0) (dVar 2)) (dC (.int (2)))) (dVar 7)) (dBin fIx (dVar 0) (dVar 2)) (dC (.int (2))))
  (dPut (dCall 2 g__law_plus (dCons (dTup (dCons (dVar 5) (dCons (dVar 6) (dNil)))) (dCons (dTup (dCons (dBin fSub (dC (.int (0))) (dVar 7)) (dCons (dC (.int (1))) (dNil)))) (dNil)))) (dBin fIx (dVar 0) (dVar 2)) (dBin fSub (dVar 3) (dC (.int (4)))))))) (dNext))))))
/-- _law_spoilt(_law_rows, _law_cell) -/
def d__law_spoilt : DS :=
  dSeq (dSet 2 (dBin fMod (dBin fDiv (dVar 1) (dC (.int (16)))) (dB1 fLen (dCons (dVar 0) (dNil)))))
  (dSeq (dSet 3 (dBin fMod (dVar 1) (dC (.int (9)))))
  (dSeq (dSet 4 (dCall 2 g__law_share (dCons (dBin fIx (dLst false (dCons (dC (.int (1))) (dCons (dNeg (dC (.int (1)))) (dNil)))) (dBin fMod (dBin fDiv (dVar 1) (dC (.int (400)))) (dC (.int (2))))) (dCons (dBin (fAdd false) (dC (.int (1))) (dBin fMod (dBin fDiv (dVar 1) (dC (.int (800)))) (dBin fPow (dC (.int (10))) (dC (.int (6)))))) (dNil)))))
  (d__law_spoilt_t3)))
def i__law_spoilt : IDen := runI 8 d__law_spoilt
def d_law_t8 : DS :=
  dSeq (dSet 6 (dCompE false ([10]) (dVar 2) (gN 10) (dYes) (dB1 fTuple (dCons (dVar 10) (dNil)))))
  (dSeq (dSet 7 (dB1 (fList false) (dCons (dVar 6) (dNil))))
  (dSeq (dSet 8 (dCall 2 f_adds_up (dCons (dVar 3) (dCons (dVar 7) (dNil)))))
  (dSeq (dIf (dOr (dNot (dB (dB1 (fIsi tb cs) (dCons (dVar 8) (dCons (dC (.ty "bool")) (dNil)))))) (dOr (dB (dBin (fEq true) (dVar 8) (dCall 2 f__law_right (dCons (dVar 6) (dCons (dVar 3) (dNil)))))) (dB (dBin (fEq true) (dVar 7) (dVar 6))))) (dRet (dC (.bl false))) (dNext))
  (dSeq (dSet 9 (dCall 1 f__law_worth (dCons (dVar 6) (dNil))))
  (dRet (dAndV (dBin (fEq false) (dCall 2 f_adds_up (dCons (dVar 9) (dCons (dVar 7) (dNil)))) (dCall 2 f__law_right (dCons (dVar 6) (dCons (dVar 9) (dNil))))) (dCall 2 f_adds_up (dCons (dVar 3) (dCons (dVar 4) (dNil))))))))))
def d_law_t2 : DS :=
  dSeq (dSet 3 (dCall 1 f__law_worth (dCons (dVar 2) (dNil))))
  (dSeq (dSet 4 (dCompE false ([10]) (dVar 2) (gN 10) (dYes) (dB1 fTuple (dCons (dVar 10) (dNil)))))
  (dSeq (dIf (dOr (dNot (dB (dCall 2 f_adds_up (dCons (dVar 3) (dCons (dVar 4) (dNil)))))) (dOr (dB (dCall 2 f_adds_up (dCons (dTup (dCons (dC (.int (0))) (dCons (dC (.int (1))) (dNil)))) (dCons (dLst false (dNil)) (dNil))))) (dB (dCall 2 f_adds_up (dCons (dTup (dCons (dC (.int (1))) (dCons (dC (.int (1))) (dNil)))) (dCons (dLst false (dNil)) (dNil))))))) (dRet (dC (.bl false))) (dNext))
  (dSeq (dSet 5 (dCall 2 f__law_cell_at (dCons (dVar 0) (dCons (dC (.int (1))) (dNil)))))
  (dSeq (dIf (dB (dCall 2 f_adds_up (dCons (dCall 2 g__law_plus (dCons (dVar 3) (dCons (dCall 2 g__law_share (dCons (dBin fIx (dLst false (dCons (dC (.int (1))) (dCons (dNeg (dC (.int (1)))) (dNil)))) (dBin fMod (dVar 5) (dC (.int (2))))) (dCons (dBin (fAdd false) (dC (.int (1))) (dBin fMod (dBin fDiv (dVar 5) (dC (.int (2)))) (dBin fPow (dC (.int (10))) (dC (.int (9)))))) (dNil)))) (dNil)))) (dCons (dVar 4) (dNil))))) (dRet (dC (.bl false))) (dNext))
  (dSeq (dExpr (dCallI 2 i__law_spoilt (dCons (dVar 2) (dCons (dCall 2 f__law_cell_at (dCons (dVar 0) (dCons (dC (.int (0))) (dNil)))) (dNil)))))
  (d_law_t8))))))
/-- law(_law_script) -/
def d_law : DS :=
  dSeq (dSet 1 (dB1 fMax2 (dCons (dC (.int (1))) (dCons (dCall 3 f__law_many (dCons (dVar 0) (dCons (dC (.int (3))) (dCons (dC (.int (20))) (dNil))))) (dNil)))))
  (dSeq (dSet 2 (dCallI 2 i__law_made (dCons (dVar 0) (dCons (dVar 1) (dNil)))))
  (d_law_t2))
def f_law : PDen := runP 11 d_law
end Law

namespace Law
open PySem PySem.Spec PyProof.Rows L2 A
/-! lowest terms -/
structure Low (t b n d : Int) : Prop where
  pos : 1 ≤ d
  one : Int.gcd n d = 1
  eq : n * b = t * d
  ln : n.natAbs ≤ t.natAbs
  ld : d.natAbs ≤ b.natAbs
theorem abs_le_mul {u n : Int} (h : u ≠ 0) : n.natAbs ≤ (u * n).natAbs := by
  rw [Int.natAbs_mul]
  exact Nat.le_mul_of_pos_left _ (by omega)
theorem lowF_low (t b : Int) (hb : b ≠ 0) : Low t b (lowF t b).1 (lowF t b).2 := by
  have gpos : 0 < Int.gcd t b := Int.gcd_pos_of_ne_zero_right _ hb
  obtain ⟨u, hu, hu2⟩ : ∃ u : Int, u = (if b < 0 then -(Int.gcd t b : Int) else (Int.gcd t b : Int)) ∧ u.natAbs = Int.gcd t b := by
    refine ⟨_, rfl, ?_⟩
    split <;> simp
  have u0 : u ≠ 0 := by intro h; rw [h] at hu2; simp at hu2; omega
  have d1 : u ∣ t := by
    rw [← Int.natAbs_dvd, hu2]; exact Int.gcd_dvd_left ..
  have d2 : u ∣ b := by
    rw [← Int.natAbs_dvd, hu2]; exact Int.gcd_dvd_right ..
  obtain ⟨n, hn⟩ := d1
  obtain ⟨d, hd⟩ := d2
  have q1 : t.fdiv u = n := by rw [hn]; exact Int.mul_fdiv_cancel_left _ u0
  have q2 : b.fdiv u = d := by rw [hd]; exact Int.mul_fdiv_cancel_left _ u0
  have e : lowF t b = (n, d) := by
    by_cases hneg : b < 0
    · rw [if_pos hneg] at hu
      simp [lowF, hneg, ← hu, q1, q2]
    · rw [if_neg hneg] at hu
      simp [lowF, hneg, ← hu, q1, q2]
  rw [e]
  refine ⟨?_, ?_, ?_, ?_, ?_⟩
  · show 1 ≤ d
    clear hu2
    by_cases hneg : b < 0
    · rw [if_pos hneg] at hu
      have : u < 0 := by omega
      by_cases hd0 : 1 ≤ d
      · exact hd0
      · have := Int.mul_nonneg_of_nonpos_of_nonpos (a := u) (b := d) (by omega) (by omega)
        omega
    · rw [if_neg hneg] at hu
      by_cases hd0 : 1 ≤ d
      · exact hd0
      · have := Int.mul_nonpos_of_nonneg_of_nonpos (a := u) (b := d) (by omega) (by omega)
        omega
  · have z : Int.gcd (u * n) (u * d) = u.natAbs * Int.gcd n d := Int.gcd_mul_left ..
    rw [← hn, ← hd, hu2] at z
    exact Nat.eq_of_mul_eq_mul_left gpos (by show Int.gcd t b * Int.gcd n d = Int.gcd t b * 1; omega)
  · show n * b = t * d
    rw [hd, hn, Int.mul_comm u d, ← Int.mul_assoc, Int.mul_comm (n * d), Int.mul_assoc]
  · show n.natAbs ≤ t.natAbs
    rw [hn]; exact abs_le_mul u0
  · show d.natAbs ≤ b.natAbs
    rw [hd]; exact abs_le_mul u0
abbrev plusF (p q : Int × Int) : Int × Int := lowF (p.1 * q.2 + q.1 * p.2) (p.2 * q.2)
abbrev timesF (p q : Int × Int) : Int × Int := lowF (p.1 * q.1) (p.2 * q.2)
/-- a share of at most n bits -/
structure Pz (n : Nat) (p : Int × Int) : Prop where
  pos : 0 < p.2
  a : Sz n p.1
  b : Sz n p.2
theorem Pz.mono {n m : Nat} {p : Int × Int} (h : Pz n p) (l : n ≤ m) : Pz m p := ⟨h.pos, h.a.mono l, h.b.mono l⟩
theorem Pz.low {n : Nat} {t b : Int} (ht : Sz n t) (hb : Sz n b) (h : b ≠ 0) : Pz n (lowF t b) := by
  have l := lowF_low t b h
  have := l.pos
  exact ⟨by omega, ht.of_le l.ln, hb.of_le l.ld⟩
theorem Pz.mul {n m : Nat} {p q : Int × Int} (h : Pz n p) (k : Pz m q) : 0 < p.2 * q.2 := Int.mul_pos h.pos k.pos
theorem Pz.plus {n m : Nat} {p q : Int × Int} (h : Pz n p) (k : Pz m q) : Pz (n + m + 1) (plusF p q) := by
  have b0 := h.mul k
  refine Pz.low ?_ ((h.b.mul k.b).mono (by omega)) (by omega)
  have z := k.a.mul h.b
  rw [Nat.add_comm] at z
  exact (h.a.mul k.b).add z
theorem Pz.times {n m : Nat} {p q : Int × Int} (h : Pz n p) (k : Pz m q) : Pz (n + m) (timesF p q) := by
  have b0 := h.mul k
  exact Pz.low (h.a.mul k.a) (h.b.mul k.b) (by omega)
section
variable {n m : Nat} {p q : Int × Int}
theorem mC (h : Sz n p.1) (k : Sz m q.1) (l : n + m < 100000000) : mulC p.1 q.1 = true := mulC_of h k l
theorem e_plus (h : Pz n p) (k : Pz m q) (l : n + m < 100000000) : f_plus [fr2 p, fr2 q] = .ok (fr2 (plusF p q)) false := by
  have := h.mul k
  exact m_plus (by simp [mulC_of h.a k.b l, mulC_of k.a h.b (by omega), mulC_of h.b k.b l]; exact ⟨by have := h.pos; omega, by have := k.pos; omega⟩)
theorem e_times (h : Pz n p) (k : Pz m q) (l : n + m < 100000000) : f_times [fr2 p, fr2 q] = .ok (fr2 (timesF p q)) false := by
  exact m_times (by simp [mulC_of h.a k.a l, mulC_of h.b k.b l]; exact ⟨by have := h.pos; omega, by have := k.pos; omega⟩)
theorem e_below (h : Pz n p) (k : Pz m q) (l : n + m < 100000000) : f_below [fr2 p, fr2 q] = .ok (.bl (decide (p.1 * q.2 < q.1 * p.2))) false := by
  exact m_below (by simp [mulC_of h.a k.b l, mulC_of k.a h.b (by omega)])
theorem e_lplus (h : Pz n p) (k : Pz m q) (l : n + m < 100000000) : f__law_plus [fr2 p, fr2 q] = .ok (fr2 (plusF p q)) false := by
  have := h.mul k
  exact m__law_plus (by simp [mulC_of h.a k.b l, mulC_of k.a h.b (by omega), mulC_of h.b k.b l]; exact this)
end
theorem ix0 {p : Int × Int} {fr : Bool} {st : Store} : fIx (.v (fr2 p) fr) (.v (.int 0) false) st = .ok (.v (.int p.1) false) st := by simp [fr2, runP, runI, slots0, A.strip, dRet, dRetN, Res.flow, Res.then, dBin, dI2, dVar, dC, fIx, okP, okV, freeze, L2.atI, L2.ixN, dSeq, dIf, dSet, dExpr, dB, dArg, dCons, dNil, callP, toPs, toP, PRes.res, dNext, dB1, fLen, lenOf, fAbs, fAdd, dAnd, dOr, dNot, dAndV, dOrV, dNotV, dBV, dIfE, dTup, dLst, newL, dAsg, gN, gT, gU, unP, gC, gE, dForE, forR, lstAt, turnsAt, dCompE, compR, isLst, dMeth, dMeth0, putL, itemsOf, fAppend, fExtend, fClear, fPop, fPopAt, fInsert, fReverse, fPut, dPut, fInts, dAug, dNeg, dPar, fInt, fMax2, fMin2, Nat.ble, dBreak, dCont, dComp, compL, noEx, wipeS, dYes, dRange1, dRange2, asI1, asI2, bnd, dItem, itemsV, dSlice, dPart, dNoPart, fSlice, A.cut, HT.sIx, A.listOf,  noBor, noBors, views, view, viewN, optAll]
theorem ix1 {p : Int × Int} {fr : Bool} {st : Store} : fIx (.v (fr2 p) fr) (.v (.int 1) false) st = .ok (.v (.int p.2) false) st := by simp [fr2, runP, runI, slots0, A.strip, dRet, dRetN, Res.flow, Res.then, dBin, dI2, dVar, dC, fIx, okP, okV, freeze, L2.atI, L2.ixN, dSeq, dIf, dSet, dExpr, dB, dArg, dCons, dNil, callP, toPs, toP, PRes.res, dNext, dB1, fLen, lenOf, fAbs, fAdd, dAnd, dOr, dNot, dAndV, dOrV, dNotV, dBV, dIfE, dTup, dLst, newL, dAsg, gN, gT, gU, unP, gC, gE, dForE, forR, lstAt, turnsAt, dCompE, compR, isLst, dMeth, dMeth0, putL, itemsOf, fAppend, fExtend, fClear, fPop, fPopAt, fInsert, fReverse, fPut, dPut, fInts, dAug, dNeg, dPar, fInt, fMax2, fMin2, Nat.ble, dBreak, dCont, dComp, compL, noEx, wipeS, dYes, dRange1, dRange2, asI1, asI2, bnd, dItem, itemsV, dSlice, dPart, dNoPart, fSlice, A.cut, HT.sIx, A.listOf,  noBor, noBors, views, view, viewN, optAll]
theorem eq2 {p q : Int × Int} {f g : Bool} {st : Store} : fEq false (.v (fr2 p) f) (.v (fr2 q) g) st = .ok (.v (.bl (decide (p = q))) false) st := by
  obtain ⟨a, b⟩ := p
  obtain ⟨c, d⟩ := q
  by_cases h1 : a = c
  · by_cases h2 : b = d
    · simp [fr2, h1, h2, fEq, A.dataOf, toD, toDs, SeqAt.shaped, PyData.canLay0, PyData.canLayAll0, PyData.depthAll, PyData.depth, PyData.eqv, PyData.eqvAll, runP, runI, slots0, A.strip, dRet, dRetN, Res.flow, Res.then, dBin, dI2, dVar, dC, fIx, okP, okV, freeze, L2.atI, L2.ixN, dSeq, dIf, dSet, dExpr, dB, dArg, dCons, dNil, callP, toPs, toP, PRes.res, dNext, dB1, fLen, lenOf, fAbs, fAdd, dAnd, dOr, dNot, dAndV, dOrV, dNotV, dBV, dIfE, dTup, dLst, newL, dAsg, gN, gT, gU, unP, gC, gE, dForE, forR, lstAt, turnsAt, dCompE, compR, isLst, dMeth, dMeth0, putL, itemsOf, fAppend, fExtend, fClear, fPop, fPopAt, fInsert, fReverse, fPut, dPut, fInts, dAug, dNeg, dPar, fInt, fMax2, fMin2, Nat.ble, dBreak, dCont, dComp, compL, noEx, wipeS, dYes, dRange1, dRange2, asI1, asI2, bnd, dItem, itemsV, dSlice, dPart, dNoPart, fSlice, A.cut, HT.sIx, A.listOf,  noBor, noBors, views, view, viewN, optAll]
    · simp [fr2, h1, h2, fEq, A.dataOf, toD, toDs, SeqAt.shaped, PyData.canLay0, PyData.canLayAll0, PyData.depthAll, PyData.depth, PyData.eqv, PyData.eqvAll, runP, runI, slots0, A.strip, dRet, dRetN, Res.flow, Res.then, dBin, dI2, dVar, dC, fIx, okP, okV, freeze, L2.atI, L2.ixN, dSeq, dIf, dSet, dExpr, dB, dArg, dCons, dNil, callP, toPs, toP, PRes.res, dNext, dB1, fLen, lenOf, fAbs, fAdd, dAnd, dOr, dNot, dAndV, dOrV, dNotV, dBV, dIfE, dTup, dLst, newL, dAsg, gN, gT, gU, unP, gC, gE, dForE, forR, lstAt, turnsAt, dCompE, compR, isLst, dMeth, dMeth0, putL, itemsOf, fAppend, fExtend, fClear, fPop, fPopAt, fInsert, fReverse, fPut, dPut, fInts, dAug, dNeg, dPar, fInt, fMax2, fMin2, Nat.ble, dBreak, dCont, dComp, compL, noEx, wipeS, dYes, dRange1, dRange2, asI1, asI2, bnd, dItem, itemsV, dSlice, dPart, dNoPart, fSlice, A.cut, HT.sIx, A.listOf,  noBor, noBors, views, view, viewN, optAll]
  · simp [fr2, h1, fEq, A.dataOf, toD, toDs, SeqAt.shaped, PyData.canLay0, PyData.canLayAll0, PyData.depthAll, PyData.depth, PyData.eqv, PyData.eqvAll, runP, runI, slots0, A.strip, dRet, dRetN, Res.flow, Res.then, dBin, dI2, dVar, dC, fIx, okP, okV, freeze, L2.atI, L2.ixN, dSeq, dIf, dSet, dExpr, dB, dArg, dCons, dNil, callP, toPs, toP, PRes.res, dNext, dB1, fLen, lenOf, fAbs, fAdd, dAnd, dOr, dNot, dAndV, dOrV, dNotV, dBV, dIfE, dTup, dLst, newL, dAsg, gN, gT, gU, unP, gC, gE, dForE, forR, lstAt, turnsAt, dCompE, compR, isLst, dMeth, dMeth0, putL, itemsOf, fAppend, fExtend, fClear, fPop, fPopAt, fInsert, fReverse, fPut, dPut, fInts, dAug, dNeg, dPar, fInt, fMax2, fMin2, Nat.ble, dBreak, dCont, dComp, compL, noEx, wipeS, dYes, dRange1, dRange2, asI1, asI2, bnd, dItem, itemsV, dSlice, dPart, dNoPart, fSlice, A.cut, HT.sIx, A.listOf,  noBor, noBors, views, view, viewN, optAll]

/-! rows -/
structure Rw where
  k : Int
  c : Int
  part : Int × Int
  had : Int
  left : Int × Int
  miss : Int × Int
def rowPs (r : Rw) : List PV := [.tup [.int r.k, .int r.c], fr2 r.part, .int r.had, fr2 r.left, fr2 r.miss]
structure RwOk (r : Rw) : Prop where
  part : Pz 1000 r.part
  had : Sz 1000 r.had
  left : Pz 1000 r.left
  miss : Pz 1000 r.miss
def innerF (r : Rw) : Int × Int := plusF (r.had, 1) (plusF r.left r.miss)
theorem one_ok {i : Int} (h : Sz 1000 i) : Pz 1000 (i, 1) := ⟨(by decide : (0 : Int) < 1), h, (.lit (by decide +kernel) : Sz 1000 1)⟩
theorem innerF_ok {r : Rw} (h : RwOk r) : Pz 3010 (innerF r) :=
  ((one_ok h.had).plus (h.left.plus h.miss)).mono (by decide)
def worthF : List Rw → Int × Int → Int × Int
  | [], w => w
  | r :: rs, w => worthF rs (plusF w (timesF r.part (innerF r)))
def shF : List Rw → Int × Int → Int × Int
  | [], s => s
  | r :: rs, s => shF rs (plusF s r.part)
def good (r : Rw) : Bool := decide (0 < r.part.1) && (decide (0 ≤ r.left.1) && decide (0 ≤ r.miss.1))
def okR (rs : List Rw) : Bool := rs.all good
/-- what both ask -/
def rightF (rs : List Rw) (w : Int × Int) : Bool := okR rs && (decide (shF rs (0, 1) = (1, 1)) && decide (worthF rs (0, 1) = w))
/-- a row, told as a tuple or as a list -/
def rowT (r : Rw) : PV := .tup (rowPs r)
def rowL (r : Rw) : PV := .lst false (rowPs r)
theorem worthF_ok : ∀ {rs : List Rw} {w : Int × Int} {n : Nat}, (∀ r ∈ rs, RwOk r) → Pz n w → Pz (n + 4100 * rs.length) (worthF rs w)
  | [], _, _, _, h => h
  | r :: rs, w, n, hr, h => by
    have h1 := h.plus ((hr r List.mem_cons_self).part.times (innerF_ok (hr r List.mem_cons_self)))
    have := worthF_ok (fun r m => hr r (List.mem_cons_of_mem _ m)) h1
    exact this.mono (by simp; omega)
theorem shF_ok : ∀ {rs : List Rw} {w : Int × Int} {n : Nat}, (∀ r ∈ rs, RwOk r) → Pz n w → Pz (n + 4100 * rs.length) (shF rs w)
  | [], _, _, _, h => h
  | r :: rs, w, n, hr, h => by
    have h1 := h.plus (hr r List.mem_cons_self).part
    have := shF_ok (fun r m => hr r (List.mem_cons_of_mem _ m)) h1
    exact this.mono (by simp; omega)
theorem lp1 {b d : Int × Int} {n m : Nat} (h : Pz n b) (k : Pz m d) (l : n + m < 100000000) : f__law_share [.int (b.1 * d.1), .int (b.2 * d.2)] = .ok (fr2 (timesF b d)) false := m__law_share _ _ (h.mul k)
abbrev bodyW : DS := dSeq (dSet 7 (dCall 2 g__law_plus (dCons (dTup (dCons (dVar 4) (dCons (dC (.int (1))) (dNil)))) (dCons (dCall 2 g__law_plus (dCons (dVar 5) (dCons (dVar 6) (dNil)))) (dNil)))))
  (dSet 1 (dCall 2 g__law_plus (dCons (dVar 1) (dCons (dCall 2 g__law_share (dCons (dBin fMul (dBin fIx (dVar 3) (dC (.int (0)))) (dBin fIx (dVar 7) (dC (.int (0))))) (dCons (dBin fMul (dBin fIx (dVar 3) (dC (.int (1)))) (dBin fIx (dVar 7) (dC (.int (1))))) (dNil)))) (dNil)))))
theorem loopW (F : Rw → PV) (hF : ∀ r, unP (.v (F r) false) = some (rowPs r)) : ∀ (rs : List Rw) (n : Nat) (w : Int × Int) (a x2 x3 x4 x5 x6 x7 : Option AV) (fr : Bool), (∀ r ∈ rs, RwOk r) → Pz n w → n + 4100 * rs.length < 90000000 →
    ∃ y2 y3 y4 y5 y6 y7 fr', forL (gU 5 (gC (gN 2) (gC (gN 3) (gC (gN 4) (gC (gN 5) (gC (gN 6) (gE))))))) bodyW (rs.map fun r => .v (F r) false) [a, some (.v (fr2 w) fr), x2, x3, x4, x5, x6, x7] [] = .nx [a, some (.v (fr2 (worthF rs w)) fr'), y2, y3, y4, y5, y6, y7] []
  | [], n, w, a, x2, x3, x4, x5, x6, x7, fr, _, _, _ => ⟨x2, x3, x4, x5, x6, x7, fr, rfl⟩
  | r :: rs, n, w, a, x2, x3, x4, x5, x6, x7, fr, hr, hw, hl => by
    have k := hr r List.mem_cons_self
    have h1 : g__law_plus [fr2 r.left, fr2 r.miss] = .ok (fr2 (plusF r.left r.miss)) false := by rw [← g__law_plus_eq]; exact e_lplus k.left k.miss (by decide)
    have h2 : g__law_plus [.tup [.int r.had, .int 1], fr2 (plusF r.left r.miss)] = .ok (fr2 (innerF r)) false := by
      rw [← g__law_plus_eq]
      exact e_lplus (one_ok k.had) (k.left.plus k.miss) (by decide)
    have i := innerF_ok k
    have h3 : g__law_share [.int (r.part.1 * (innerF r).1), .int (r.part.2 * (innerF r).2)] = .ok (fr2 (timesF r.part (innerF r))) false := by rw [← g__law_share_eq]; exact lp1 k.part i (by decide)
    have pt := k.part.times i
    simp at hl
    have h4 : g__law_plus [fr2 w, fr2 (timesF r.part (innerF r))] = .ok (fr2 (plusF w (timesF r.part (innerF r)))) false := by rw [← g__law_plus_eq]; exact e_lplus hw pt (by omega)
    have c1 := mulC_of k.part.a i.a (by decide)
    have c2 := mulC_of k.part.b i.b (by decide)
    obtain ⟨y2, y3, y4, y5, y6, y7, fr', e⟩ := loopW F hF rs (n + (1000 + 3010) + 1) (plusF w (timesF r.part (innerF r))) a (some (.v (.tup [.int r.k, .int r.c]) false)) (some (.v (fr2 r.part) false)) (some (.v (.int r.had) false)) (some (.v (fr2 r.left) false)) (some (.v (fr2 r.miss) false)) (some (.v (fr2 (innerF r)) false)) false
      (fun r m => hr r (List.mem_cons_of_mem _ m)) (hw.plus pt) (by omega)
    refine ⟨y2, y3, y4, y5, y6, y7, fr', ?_⟩
    rw [show worthF (r :: rs) w = worthF rs (plusF w (timesF r.part (innerF r))) from rfl, ← e]
    simp [forL, gU, hF, rowPs, gC, gN, gE, bodyW, h1, h2, h3, h4, c1, c2, ix0, ix1, dSeq, dSet, dCall, dArg, dCons, dNil, dVar, dC, dTup, dBin, dI2, Res.then, Res.flow, callP, toPs, PRes.res, Nat.ble]

theorem zero_ok : Pz 1000 (0, 1) := ⟨by decide, .lit (by decide +kernel), .lit (by decide +kernel)⟩
/-- the law's own worth; t: lists or tuples -/
theorem e_worth {t : Bool} {F : Rw → PV} (hF : ∀ r, unP (.v (F r) false) = some (rowPs r)) {rs : List Rw} (hr : ∀ r ∈ rs, RwOk r) (hn : rs.length ≤ 20) : ∃ fr, f__law_worth [.lst t (rs.map F)] = .ok (fr2 (worthF rs (0, 1))) fr := by
  obtain ⟨y2, y3, y4, y5, y6, y7, fr', e⟩ := loopW F hF rs 1000 (0, 1) (some (.v (.lst t (rs.map F)) false)) none none none none none none false hr zero_ok (by omega)
  refine ⟨fr', ?_⟩
  have it : itemsV (.v (.lst t (rs.map F)) false) = some (rs.map fun r => .v (F r) false) := by simp [itemsV]
  have e0 : forL (gU 5 (gC (gN 2) (gC (gN 3) (gC (gN 4) (gC (gN 5) (gC (gN 6) (gE))))))) bodyW (rs.map fun r => .v (F r) false) [some (.v (.lst t (rs.map F)) false), some (.v (.tup [.int 0, .int 1]) false), none, none, none, none, none, none] [] = .nx [some (.v (.lst t (rs.map F)) false), some (.v (fr2 (worthF rs (0, 1))) fr'), y2, y3, y4, y5, y6, y7] [] := e
  simp [f__law_worth, d__law_worth, runP, slots0, A.strip, dSeq, dSet, dTup, dCons, dNil, dC, dVar, toPs, Res.then, Res.flow, Nat.ble, dForE, it, e0, dRet, freeze]
abbrev bodyA : DS := dSeq (dIf (dOr (dNot (dB (dCall 2 g_below (dCons (dVar 2) (dCons (dVar 6) (dNil)))))) (dOr (dB (dCall 2 g_below (dCons (dVar 8) (dCons (dVar 2) (dNil))))) (dB (dCall 2 g_below (dCons (dVar 9) (dCons (dVar 2) (dNil))))))) (dRet (dC (.bl false))) (dNext))
  (dSeq (dSet 3 (dCall 2 g_plus (dCons (dVar 3) (dCons (dVar 6) (dNil)))))
  (dSet 4 (dCall 2 g_plus (dCons (dVar 4) (dCons (dCall 2 g_times (dCons (dVar 6) (dCons (dCall 2 g_plus (dCons (dCall 1 f_whole (dCons (dVar 7) (dNil))) (dCons (dCall 2 g_plus (dCons (dVar 8) (dCons (dVar 9) (dNil)))) (dNil)))) (dNil)))) (dNil))))))
theorem e_whole (i : Int) : f_whole [.int i] = .ok (fr2 (i, 1)) false := by simp [f_whole, d_whole, fr2, runP, runI, slots0, A.strip, dRet, dRetN, Res.flow, Res.then, dBin, dI2, dVar, dC, fIx, okP, okV, freeze, L2.atI, L2.ixN, dSeq, dIf, dSet, dExpr, dB, dArg, dCons, dNil, callP, toPs, toP, PRes.res, dNext, dB1, fLen, lenOf, fAbs, fAdd, dAnd, dOr, dNot, dAndV, dOrV, dNotV, dBV, dIfE, dTup, dLst, newL, dAsg, gN, gT, gU, unP, gC, gE, dForE, forR, lstAt, turnsAt, dCompE, compR, isLst, dMeth, dMeth0, putL, itemsOf, fAppend, fExtend, fClear, fPop, fPopAt, fInsert, fReverse, fPut, dPut, fInts, dAug, dNeg, dPar, fInt, fMax2, fMin2, Nat.ble, dBreak, dCont, dComp, compL, noEx, wipeS, dYes, dRange1, dRange2, asI1, asI2, bnd, dItem, itemsV, dSlice, dPart, dNoPart, fSlice, A.cut, HT.sIx, A.listOf,  noBor, noBors, views, view, viewN, optAll]
theorem loopA (F : Rw → PV) (hF : ∀ r, unP (.v (F r) false) = some (rowPs r)) : ∀ (rs : List Rw) (n : Nat) (s w : Int × Int) (a b x5 x6 x7 x8 x9 : Option AV) (f1 f2 : Bool), (∀ r ∈ rs, RwOk r) → Pz n s → Pz n w → n + 4100 * rs.length < 90000000 →
    (okR rs = true ∧ ∃ y5 y6 y7 y8 y9 f1' f2', forL (gU 5 (gC (gN 5) (gC (gN 6) (gC (gN 7) (gC (gN 8) (gC (gN 9) (gE))))))) bodyA (rs.map fun r => .v (F r) false) [a, b, some (.v (fr2 (0, 1)) false), some (.v (fr2 s) f1), some (.v (fr2 w) f2), x5, x6, x7, x8, x9] [] = .nx [a, b, some (.v (fr2 (0, 1)) false), some (.v (fr2 (shF rs s)) f1'), some (.v (fr2 (worthF rs w)) f2'), y5, y6, y7, y8, y9] []) ∨
    (okR rs = false ∧ forL (gU 5 (gC (gN 5) (gC (gN 6) (gC (gN 7) (gC (gN 8) (gC (gN 9) (gE))))))) bodyA (rs.map fun r => .v (F r) false) [a, b, some (.v (fr2 (0, 1)) false), some (.v (fr2 s) f1), some (.v (fr2 w) f2), x5, x6, x7, x8, x9] [] = .rt (.v (.bl false) false) [])
  | [], n, s, w, a, b, x5, x6, x7, x8, x9, f1, f2, _, _, _, _ => .inl ⟨rfl, x5, x6, x7, x8, x9, f1, f2, rfl⟩
  | r :: rs, n, s, w, a, b, x5, x6, x7, x8, x9, f1, f2, hr, hs, hw, hl => by
    have k := hr r List.mem_cons_self
    simp at hl
    have b1 : g_below [fr2 (0, 1), fr2 r.part] = .ok (.bl (decide (0 < r.part.1))) false := by
      rw [← g_below_eq, e_below zero_ok k.part (by decide)]; simp
    have b2 : g_below [fr2 r.left, fr2 (0, 1)] = .ok (.bl (decide (r.left.1 < 0))) false := by
      rw [← g_below_eq, e_below k.left zero_ok (by decide)]; simp
    have b3 : g_below [fr2 r.miss, fr2 (0, 1)] = .ok (.bl (decide (r.miss.1 < 0))) false := by
      rw [← g_below_eq, e_below k.miss zero_ok (by decide)]; simp
    have h1 : g_plus [fr2 r.left, fr2 r.miss] = .ok (fr2 (plusF r.left r.miss)) false := by rw [← g_plus_eq]; exact e_plus k.left k.miss (by decide)
    have h2 : g_plus [fr2 (r.had, 1), fr2 (plusF r.left r.miss)] = .ok (fr2 (innerF r)) false := by
      rw [← g_plus_eq]; exact e_plus (one_ok k.had) (k.left.plus k.miss) (by decide)
    have i := innerF_ok k
    have h3 : g_times [fr2 r.part, fr2 (innerF r)] = .ok (fr2 (timesF r.part (innerF r))) false := by rw [← g_times_eq]; exact e_times k.part i (by decide)
    have pt := k.part.times i
    have h4 : g_plus [fr2 w, fr2 (timesF r.part (innerF r))] = .ok (fr2 (plusF w (timesF r.part (innerF r)))) false := by rw [← g_plus_eq]; exact e_plus hw pt (by omega)
    have h5 : g_plus [fr2 s, fr2 r.part] = .ok (fr2 (plusF s r.part)) false := by rw [← g_plus_eq]; exact e_plus hs k.part (by omega)
    by_cases g : good r = true
    · have g' := g
      simp only [good, Bool.and_eq_true, decide_eq_true_eq] at g'
      have n1 : ¬ r.left.1 < 0 := by omega
      have n2 : ¬ r.miss.1 < 0 := by omega
      have st : ∀ z, forL (gU 5 (gC (gN 5) (gC (gN 6) (gC (gN 7) (gC (gN 8) (gC (gN 9) (gE))))))) bodyA ((r :: rs).map fun r => .v (F r) false) [a, b, some (.v (fr2 (0, 1)) false), some (.v (fr2 s) f1), some (.v (fr2 w) f2), x5, x6, x7, x8, x9] [] = z ↔
          forL (gU 5 (gC (gN 5) (gC (gN 6) (gC (gN 7) (gC (gN 8) (gC (gN 9) (gE))))))) bodyA (rs.map fun r => .v (F r) false) [a, b, some (.v (fr2 (0, 1)) false), some (.v (fr2 (plusF s r.part)) false), some (.v (fr2 (plusF w (timesF r.part (innerF r)))) false), some (.v (.tup [.int r.k, .int r.c]) false), some (.v (fr2 r.part) false), some (.v (.int r.had) false), some (.v (fr2 r.left) false), some (.v (fr2 r.miss) false)] [] = z := fun z => by
        simp [forL, gU, hF, rowPs, gC, gN, gE, bodyA, b1, b2, b3, g'.1, n1, n2, h1, h2, h3, h4, h5, e_whole, dSeq, dSet, dCall, dArg, dCons, dNil, dVar, dC, dIf, dOr, dNot, dB, dNext, Res.then, Res.flow, callP, toPs, PRes.res, Nat.ble]
      rcases loopA F hF rs (n + (1000 + 3010) + 1) (plusF s r.part) (plusF w (timesF r.part (innerF r))) a b (some (.v (.tup [.int r.k, .int r.c]) false)) (some (.v (fr2 r.part) false)) (some (.v (.int r.had) false)) (some (.v (fr2 r.left) false)) (some (.v (fr2 r.miss) false)) false false
        (fun r m => hr r (List.mem_cons_of_mem _ m)) ((hs.plus k.part).mono (by omega)) (hw.plus pt) (by omega) with ⟨o, y5, y6, y7, y8, y9, f1', f2', e⟩ | ⟨o, e⟩
      · exact .inl ⟨by simp [okR] at o ⊢; exact ⟨g, o⟩, y5, y6, y7, y8, y9, f1', f2', (st _).mpr e⟩
      · exact .inr ⟨by simp [okR] at o ⊢; exact fun _ => o, (st _).mpr e⟩
    · refine .inr ⟨by simp [okR, g], ?_⟩
      simp only [good, Bool.and_eq_true, decide_eq_true_eq] at g
      by_cases g1 : 0 < r.part.1
      · by_cases g2 : r.left.1 < 0
        · simp [forL, gU, hF, rowPs, gC, gN, gE, bodyA, b1, b2, b3, g1, g2, dSeq, dSet, dCall, dArg, dCons, dNil, dVar, dC, dIf, dOr, dNot, dB, dNext, dRet, Res.then, Res.flow, callP, toPs, PRes.res, Nat.ble]
        · have g3 : r.miss.1 < 0 := by omega
          simp [forL, gU, hF, rowPs, gC, gN, gE, bodyA, b1, b2, b3, g1, g2, g3, dSeq, dSet, dCall, dArg, dCons, dNil, dVar, dC, dIf, dOr, dNot, dB, dNext, dRet, Res.then, Res.flow, callP, toPs, PRes.res, Nat.ble]
      · simp [forL, gU, hF, rowPs, gC, gN, gE, bodyA, b1, b2, b3, g1, dSeq, dSet, dCall, dArg, dCons, dNil, dVar, dC, dIf, dOr, dNot, dB, dNext, dRet, Res.then, Res.flow, callP, toPs, PRes.res, Nat.ble]
theorem e_adds {t : Bool} {F : Rw → PV} (hF : ∀ r, unP (.v (F r) false) = some (rowPs r)) {rs : List Rw} (hr : ∀ r ∈ rs, RwOk r) (hn : rs.length ≤ 20) (w : Int × Int) : f_adds_up [fr2 w, .lst t (rs.map F)] = .ok (.bl (rightF rs w)) false := by
  have it : itemsV (.v (.lst t (rs.map F)) false) = some (rs.map fun r => .v (F r) false) := by simp [itemsV]
  rcases loopA F hF rs 1000 (0, 1) (0, 1) (some (.v (fr2 w) false)) (some (.v (.lst t (rs.map F)) false)) none none none none none false false hr zero_ok zero_ok (by omega) with ⟨o, y5, y6, y7, y8, y9, f1', f2', e⟩ | ⟨o, e⟩
  · by_cases h : shF rs (0, 1) = (1, 1)
    · simp [f_adds_up, d_adds_up, runP, slots0, A.strip, e_whole, dSeq, dSet, dCall, dArg, dCons, dNil, dC, dVar, toPs, Res.then, Res.flow, callP, PRes.res, dForE, it, e, dRet, freeze, dAndV, dBin, eq2, rightF, o, h]
    · simp [f_adds_up, d_adds_up, runP, slots0, A.strip, e_whole, dSeq, dSet, dCall, dArg, dCons, dNil, dC, dVar, toPs, Res.then, Res.flow, callP, PRes.res, dForE, it, e, dRet, freeze, dAndV, dBin, eq2, rightF, o, h]
  · simp [f_adds_up, d_adds_up, runP, slots0, A.strip, e_whole, dSeq, dSet, dCall, dArg, dCons, dNil, dC, dVar, toPs, Res.then, Res.flow, callP, PRes.res, dForE, it, e, dRet, freeze, dAndV, dBin, eq2, rightF, o]

abbrev bodyR : DS := dSeq (dIf (dOr (dB (dBin fLt (dBin fIx (dVar 4) (dC (.int (0)))) (dC (.int (1))))) (dOr (dB (dBin fLt (dBin fIx (dVar 6) (dC (.int (0)))) (dC (.int (0))))) (dB (dBin fLt (dBin fIx (dVar 7) (dC (.int (0)))) (dC (.int (0))))))) (dRet (dC (.bl false))) (dNext))
  (dSet 2 (dCall 2 g__law_plus (dCons (dVar 2) (dCons (dVar 4) (dNil)))))
theorem loopR (F : Rw → PV) (hF : ∀ r, unP (.v (F r) false) = some (rowPs r)) : ∀ (rs : List Rw) (n : Nat) (s : Int × Int) (a b x3 x4 x5 x6 x7 : Option AV) (f1 : Bool), (∀ r ∈ rs, RwOk r) → Pz n s → n + 4100 * rs.length < 90000000 →
    (okR rs = true ∧ ∃ y3 y4 y5 y6 y7 f1', forL (gU 5 (gC (gN 3) (gC (gN 4) (gC (gN 5) (gC (gN 6) (gC (gN 7) (gE))))))) bodyR (rs.map fun r => .v (F r) false) [a, b, some (.v (fr2 s) f1), x3, x4, x5, x6, x7] [] = .nx [a, b, some (.v (fr2 (shF rs s)) f1'), y3, y4, y5, y6, y7] []) ∨
    (okR rs = false ∧ forL (gU 5 (gC (gN 3) (gC (gN 4) (gC (gN 5) (gC (gN 6) (gC (gN 7) (gE))))))) bodyR (rs.map fun r => .v (F r) false) [a, b, some (.v (fr2 s) f1), x3, x4, x5, x6, x7] [] = .rt (.v (.bl false) false) [])
  | [], n, s, a, b, x3, x4, x5, x6, x7, f1, _, _, _ => .inl ⟨rfl, x3, x4, x5, x6, x7, f1, rfl⟩
  | r :: rs, n, s, a, b, x3, x4, x5, x6, x7, f1, hr, hs, hl => by
    have k := hr r List.mem_cons_self
    simp at hl
    have h5 : g__law_plus [fr2 s, fr2 r.part] = .ok (fr2 (plusF s r.part)) false := by rw [← g__law_plus_eq]; exact e_lplus hs k.part (by omega)
    by_cases g : good r = true
    · have g' := g
      simp only [good, Bool.and_eq_true, decide_eq_true_eq] at g'
      have n0 : ¬ r.part.1 < 1 := by omega
      have n1 : ¬ r.left.1 < 0 := by omega
      have n2 : ¬ r.miss.1 < 0 := by omega
      have st : ∀ z, forL (gU 5 (gC (gN 3) (gC (gN 4) (gC (gN 5) (gC (gN 6) (gC (gN 7) (gE))))))) bodyR ((r :: rs).map fun r => .v (F r) false) [a, b, some (.v (fr2 s) f1), x3, x4, x5, x6, x7] [] = z ↔
          forL (gU 5 (gC (gN 3) (gC (gN 4) (gC (gN 5) (gC (gN 6) (gC (gN 7) (gE))))))) bodyR (rs.map fun r => .v (F r) false) [a, b, some (.v (fr2 (plusF s r.part)) false), some (.v (.tup [.int r.k, .int r.c]) false), some (.v (fr2 r.part) false), some (.v (.int r.had) false), some (.v (fr2 r.left) false), some (.v (fr2 r.miss) false)] [] = z := fun z => by
        simp [forL, gU, hF, rowPs, gC, gN, gE, bodyR, n0, n1, n2, h5, ix0, dBin, dI2, dSeq, dSet, dCall, dArg, dCons, dNil, dVar, dC, dIf, dOr, dNot, dB, dNext, Res.then, Res.flow, callP, toPs, PRes.res, Nat.ble]
      rcases loopR F hF rs (n + (1000 + 3010) + 1) (plusF s r.part) a b (some (.v (.tup [.int r.k, .int r.c]) false)) (some (.v (fr2 r.part) false)) (some (.v (.int r.had) false)) (some (.v (fr2 r.left) false)) (some (.v (fr2 r.miss) false)) false
        (fun r m => hr r (List.mem_cons_of_mem _ m)) ((hs.plus k.part).mono (by omega)) (by omega) with ⟨o, y5, y6, y7, y8, y9, f1', e⟩ | ⟨o, e⟩
      · exact .inl ⟨by simp [okR] at o ⊢; exact ⟨g, o⟩, y5, y6, y7, y8, y9, f1', (st _).mpr e⟩
      · exact .inr ⟨by simp [okR] at o ⊢; exact fun _ => o, (st _).mpr e⟩
    · refine .inr ⟨by simp [okR, g], ?_⟩
      simp only [good, Bool.and_eq_true, decide_eq_true_eq] at g
      by_cases g1 : r.part.1 < 1
      · simp [forL, gU, hF, rowPs, gC, gN, gE, bodyR, g1, ix0, dBin, dI2, dSeq, dSet, dCall, dArg, dCons, dNil, dVar, dC, dIf, dOr, dNot, dB, dNext, dRet, Res.then, Res.flow, callP, toPs, PRes.res, Nat.ble]
      · by_cases g2 : r.left.1 < 0
        · simp [forL, gU, hF, rowPs, gC, gN, gE, bodyR, g1, g2, ix0, dBin, dI2, dSeq, dSet, dCall, dArg, dCons, dNil, dVar, dC, dIf, dOr, dNot, dB, dNext, dRet, Res.then, Res.flow, callP, toPs, PRes.res, Nat.ble]
        · have g3 : r.miss.1 < 0 := by omega
          simp [forL, gU, hF, rowPs, gC, gN, gE, bodyR, g1, g2, g3, ix0, dBin, dI2, dSeq, dSet, dCall, dArg, dCons, dNil, dVar, dC, dIf, dOr, dNot, dB, dNext, dRet, Res.then, Res.flow, callP, toPs, PRes.res, Nat.ble]
theorem e_right {t : Bool} {F : Rw → PV} (hF : ∀ r, unP (.v (F r) false) = some (rowPs r)) {rs : List Rw} (hr : ∀ r ∈ rs, RwOk r) (hn : rs.length ≤ 20) (w : Int × Int) : f__law_right [.lst t (rs.map F), fr2 w] = .ok (.bl (rightF rs w)) false := by
  have it : itemsV (.v (.lst t (rs.map F)) false) = some (rs.map fun r => .v (F r) false) := by simp [itemsV]
  obtain ⟨fw, ew⟩ := e_worth (t := t) hF hr hn
  have e01 : PV.tup [.int 0, .int 1] = fr2 (0, 1) := rfl
  have e11 : PV.tup [.int 1, .int 1] = fr2 (1, 1) := rfl
  rcases loopR F hF rs 1000 (0, 1) (some (.v (.lst t (rs.map F)) false)) (some (.v (fr2 w) false)) none none none none none false hr zero_ok (by omega) with ⟨o, y5, y6, y7, y8, y9, f1', e⟩ | ⟨o, e⟩
  · by_cases h : shF rs (0, 1) = (1, 1)
    · simp [f__law_right, d__law_right, runP, slots0, A.strip, dSeq, dSet, dTup, dCall, dArg, dCons, dNil, dC, dVar, toPs, Res.then, Res.flow, callP, PRes.res, dForE, it, e01, e11, e, ew, dRet, freeze, dAndV, dBin, eq2, rightF, o, h, Nat.ble]
    · simp [f__law_right, d__law_right, runP, slots0, A.strip, dSeq, dSet, dTup, dCall, dArg, dCons, dNil, dC, dVar, toPs, Res.then, Res.flow, callP, PRes.res, dForE, it, e01, e11, e, ew, dRet, freeze, dAndV, dBin, eq2, rightF, o, h, Nat.ble]
  · simp [f__law_right, d__law_right, runP, slots0, A.strip, dSeq, dSet, dTup, dCall, dArg, dCons, dNil, dC, dVar, toPs, Res.then, Res.flow, callP, PRes.res, dForE, it, e01, e11, e, dRet, freeze, dAndV, dBin, eq2, rightF, o, Nat.ble]
/-! cells -/
theorem m_cell (ns : List Int) (k : Int) (h0 : 0 ≤ k) (h1 : k ≤ 100) : ∃ v, f__law_cell_at [.scr ns, .int k] = .ok (.int v) false ∧ 0 ≤ v ∧ v < 2147483629 := by
  obtain ⟨j, rfl⟩ : ∃ j : Nat, k = j := ⟨k.toNat, by omega⟩
  have key : ∀ z : Int, ∃ v, (∀ q : Int, q = z.fmod 2147483647 * 48271 + 7919 * j + 1 → v = ((q.fmod 2147483647 * q.fmod 2147483647).fmod 2147483647 * (q.fmod 2147483647 * q.fmod 2147483647).fmod 2147483647 + 7 * (q.fmod 2147483647 * q.fmod 2147483647).fmod 2147483647 + j).fmod 2147483629) ∧ 0 ≤ v ∧ v < 2147483629 ∧
      mulC (z.fmod 2147483647) 48271 = true ∧ mulC 7919 j = true ∧ mulC ((z.fmod 2147483647 * 48271 + 7919 * j + 1).fmod 2147483647) ((z.fmod 2147483647 * 48271 + 7919 * j + 1).fmod 2147483647) = true ∧
      (∀ q : Int, mulC ((q).fmod 2147483647) ((q).fmod 2147483647) = true) ∧ (∀ q : Int, mulC 7 ((q).fmod 2147483647) = true) := fun z => by
    have sz : ∀ q : Int, Sz 40 (q.fmod 2147483647) := fun q => by
      obtain ⟨a, b⟩ := fmod_pos (i := q) (j := 2147483647) (by decide)
      unfold Sz; omega
    obtain ⟨a, b⟩ := fmod_pos (i := (((z.fmod 2147483647 * 48271 + 7919 * j + 1).fmod 2147483647 * (z.fmod 2147483647 * 48271 + 7919 * j + 1).fmod 2147483647).fmod 2147483647 * ((z.fmod 2147483647 * 48271 + 7919 * j + 1).fmod 2147483647 * (z.fmod 2147483647 * 48271 + 7919 * j + 1).fmod 2147483647).fmod 2147483647 + 7 * ((z.fmod 2147483647 * 48271 + 7919 * j + 1).fmod 2147483647 * (z.fmod 2147483647 * 48271 + 7919 * j + 1).fmod 2147483647).fmod 2147483647 + j)) (j := 2147483629) (by decide)
    exact ⟨_, fun q e => by rw [e], a, b, mulC_of (sz z) (b := 40) (.lit (by decide +kernel)), mulC_of (a := 40) (b := 40) (.lit (by decide +kernel)) (by unfold Sz; omega), mulC_of (sz _) (sz _), fun q => mulC_of (sz q) (sz q), fun q => mulC_of (a := 40) (.lit (by decide +kernel)) (sz q)⟩
  have m0 : mulC 104729 j = true := mulC_of (a := 40) (b := 40) (.lit (by decide +kernel)) (by unfold Sz; omega)
  by_cases h : j < ns.length
  · obtain ⟨v, e, v0, v1, c1, c2, c3, c4, c5⟩ := key ns[j]
    refine ⟨v, ?_, v0, v1⟩
    rw [e _ rfl]
    simp [f__law_cell_at, d__law_cell_at, h, m0, c1, c2, c3, c4, c5, runP, runI, slots0, A.strip, dRet, dRetN, Res.flow, Res.then, dBin, dI2, dVar, dC, fIx, okP, okV, freeze, L2.atI, L2.ixN, dSeq, dIf, dSet, dExpr, dB, dArg, dCons, dNil, callP, toPs, toP, PRes.res, dNext, dB1, fLen, lenOf, fAbs, fAdd, dAnd, dOr, dNot, dAndV, dOrV, dNotV, dBV, dIfE, dTup, dLst, newL, dAsg, gN, gT, gU, unP, gC, gE, dForE, forR, lstAt, turnsAt, dCompE, compR, isLst, dMeth, dMeth0, putL, itemsOf, fAppend, fExtend, fClear, fPop, fPopAt, fInsert, fReverse, fPut, dPut, fInts, dAug, dNeg, dPar, fInt, fMax2, fMin2, Nat.ble, dBreak, dCont, dComp, compL, noEx, wipeS, dYes, dRange1, dRange2, asI1, asI2, bnd, dItem, itemsV, dSlice, dPart, dNoPart, fSlice, A.cut, HT.sIx, A.listOf,  noBor, noBors, views, view, viewN, optAll]
  · obtain ⟨v, e, v0, v1, c1, c2, c3, c4, c5⟩ := key (104729 * j + 7)
    refine ⟨v, ?_, v0, v1⟩
    rw [e _ rfl]
    simp [f__law_cell_at, d__law_cell_at, h, m0, c1, c2, c3, c4, c5, runP, runI, slots0, A.strip, dRet, dRetN, Res.flow, Res.then, dBin, dI2, dVar, dC, fIx, okP, okV, freeze, L2.atI, L2.ixN, dSeq, dIf, dSet, dExpr, dB, dArg, dCons, dNil, callP, toPs, toP, PRes.res, dNext, dB1, fLen, lenOf, fAbs, fAdd, dAnd, dOr, dNot, dAndV, dOrV, dNotV, dBV, dIfE, dTup, dLst, newL, dAsg, gN, gT, gU, unP, gC, gE, dForE, forR, lstAt, turnsAt, dCompE, compR, isLst, dMeth, dMeth0, putL, itemsOf, fAppend, fExtend, fClear, fPop, fPopAt, fInsert, fReverse, fPut, dPut, fInts, dAug, dNeg, dPar, fInt, fMax2, fMin2, Nat.ble, dBreak, dCont, dComp, compL, noEx, wipeS, dYes, dRange1, dRange2, asI1, asI2, bnd, dItem, itemsV, dSlice, dPart, dNoPart, fSlice, A.cut, HT.sIx, A.listOf,  noBor, noBors, views, view, viewN, optAll]

theorem cells (ns : List Int) : ∃ cv : Nat → Int, ∀ k : Nat, k ≤ 100 → f__law_cell_at [.scr ns, .int k] = .ok (.int (cv k)) false ∧ 0 ≤ cv k ∧ cv k < 2147483629 := by
  refine ⟨fun k => if h : k ≤ 100 then Classical.choose (m_cell ns k (by omega) (by omega)) else 0, fun k h => ?_⟩
  simp only [dif_pos h]
  exact Classical.choose_spec (m_cell ns k (by omega) (by omega))
/-! the rows made -/
theorem compL_map {tg : DG} {e : DE} {S0 : Slots} {st : Store} {f : AV → AV} : ∀ xs : List AV, (∀ x ∈ xs, ∃ S1, tg x S0 = some S1 ∧ e S1 st = .ok (f x) st) → compL tg dYes e S0 xs st = .ok (xs.map f) st
  | [], _ => rfl
  | x :: xs, h => by
    obtain ⟨S1, h1, h2⟩ := h x List.mem_cons_self
    have := compL_map xs fun y hy => h y (List.mem_cons_of_mem _ hy)
    simp [compL, h1, h2, dYes, Res.then, this]
def wtF (cv : Nat → Int) (k : Nat) : Int := 1 + (cv (3 + k)).fmod (if k % 2 = 0 then 3 else 1000)
theorem wtF_ok {cv : Nat → Int} (k : Nat) : 1 ≤ wtF cv k ∧ wtF cv k ≤ 1000 := by
  unfold wtF
  by_cases h : k % 2 = 0
  · rw [if_pos h]
    obtain ⟨a, b⟩ := fmod_pos (i := cv (3 + k)) (j := 3) (by decide)
    omega
  · rw [if_neg h]
    obtain ⟨a, b⟩ := fmod_pos (i := cv (3 + k)) (j := 1000) (by decide)
    omega
def mkR (cv : Nat → Int) (W : Int) (k : Nat) : Rw where
  k := k
  c := (cv (3 + k)).fmod 4
  part := lowF (wtF cv k) W
  had := (cv (3 + k) * 7919).fmod (2 * 1000000000000 + 1) - 1000000000000
  left := lowF (((cv (3 + k)).fdiv 1000).fmod 4 * ((cv (3 + k)).fdiv 7).fmod 1000) (1 + ((cv (3 + k)).fdiv 11).fmod 60)
  miss := lowF (((cv (3 + k)).fdiv 4000).fmod 3 * ((cv (3 + k)).fdiv 13).fmod 1000000) (1 + ((cv (3 + k)).fdiv 17).fmod 60)
theorem _root_.A.Sz.of_nat {n : Nat} {i : Int} (b : Nat) (h : i.natAbs ≤ b) (hb : Nat.blt b (2 ^ n) = true) : Sz n i := by
  have h2 : b + 1 ≤ 2 ^ n := by simpa [Nat.blt] using hb
  exact Nat.lt_of_le_of_lt h h2
theorem mkR_ok {cv : Nat → Int} {W : Int} {k : Nat} (hW : 0 < W) (hW2 : W ≤ 20000) : RwOk (mkR cv W k) := by
  obtain ⟨w1, w2⟩ := wtF_ok (cv := cv) k
  have b1 : Sz 1000 W := .of_nat 20000 (by omega) (by decide +kernel)
  have sm : ∀ (x y : Int) (a b : Nat), 0 ≤ x → 0 ≤ y → x < a → y < b → a ≤ 1000000 → b ≤ 1000000 → Sz 1000 (x * y) := fun x y a b h1 h2 h3 h4 h5 h6 => by
    have p : Sz 40 x := .of_nat 1000000 (by omega) (by decide +kernel)
    have q : Sz 40 y := .of_nat 1000000 (by omega) (by decide +kernel)
    exact (p.mul q).mono (by decide)
  refine ⟨Pz.low (.of_nat 1000 (by omega) (by decide +kernel)) b1 (by omega), ?_, ?_, ?_⟩
  · obtain ⟨a, b⟩ := fmod_pos (i := cv (3 + k) * 7919) (j := 2 * 1000000000000 + 1) (by decide)
    show Sz 1000 ((cv (3 + k) * 7919).fmod (2 * 1000000000000 + 1) - 1000000000000)
    exact .of_nat 2000000000001 (by omega) (by decide +kernel)
  · obtain ⟨a1, a2⟩ := fmod_pos (i := (cv (3 + k)).fdiv 1000) (j := 4) (by decide)
    obtain ⟨b1, b2⟩ := fmod_pos (i := (cv (3 + k)).fdiv 7) (j := 1000) (by decide)
    obtain ⟨c1, c2⟩ := fmod_pos (i := (cv (3 + k)).fdiv 11) (j := 60) (by decide)
    exact Pz.low (sm _ _ 4 1000 a1 b1 a2 b2 (by decide) (by decide)) (.of_nat 61 (by omega) (by decide +kernel)) (by omega)
  · obtain ⟨a1, a2⟩ := fmod_pos (i := (cv (3 + k)).fdiv 4000) (j := 3) (by decide)
    obtain ⟨b1, b2⟩ := fmod_pos (i := (cv (3 + k)).fdiv 13) (j := 1000000) (by decide)
    obtain ⟨c1, c2⟩ := fmod_pos (i := (cv (3 + k)).fdiv 17) (j := 60) (by decide)
    exact Pz.low (sm _ _ 3 1000000 a1 b1 a2 b2 (by decide) (by decide)) (.of_nat 61 (by omega) (by decide +kernel)) (by omega)
def refs (n : Nat) : List AV := (List.range n).map fun i => .ref (i + 1)
def rowA (r : Rw) : AO := .lst ((rowPs r).map (AV.v · false))
def stR (rs : List Rw) : Store := .lst (refs rs.length) :: rs.map rowA
theorem push_row (rs : List Rw) (r : Rw) : (stR rs ++ [rowA r]).set 0 (.lst (refs rs.length ++ [.ref (rs.length + 1)])) = stR (rs ++ [r]) := by
  simp [stR, refs, List.range_succ]
theorem stR_len (rs : List Rw) : (stR rs).length = rs.length + 1 := by simp [stR]
theorem lst0 (rs : List Rw) (t : Store) : lstAt (stR rs ++ t) 0 = some (refs rs.length) := by simp [stR, lstAt]
theorem lst0' (rs : List Rw) : lstAt (stR rs) 0 = some (refs rs.length) := by simp [stR, lstAt]

abbrev bodyM : DS := dSeq (dSet 5 (dCall 2 f__law_cell_at (dCons (dVar 0) (dCons (dBin (fAdd false) (dC (.int (3))) (dVar 4)) (dNil)))))
  (dSeq (dSet 6 (dCall 2 g__law_share (dCons (dBin fMul (dBin fMod (dBin fDiv (dVar 5) (dC (.int (1000)))) (dC (.int (4)))) (dBin fMod (dBin fDiv (dVar 5) (dC (.int (7)))) (dC (.int (1000))))) (dCons (dBin (fAdd false) (dC (.int (1))) (dBin fMod (dBin fDiv (dVar 5) (dC (.int (11)))) (dC (.int (60))))) (dNil)))))
  (dSeq (dSet 7 (dCall 2 g__law_share (dCons (dBin fMul (dBin fMod (dBin fDiv (dVar 5) (dC (.int (4000)))) (dC (.int (3)))) (dBin fMod (dBin fDiv (dVar 5) (dC (.int (13)))) (dBin fPow (dC (.int (10))) (dC (.int (6)))))) (dCons (dBin (fAdd false) (dC (.int (1))) (dBin fMod (dBin fDiv (dVar 5) (dC (.int (17)))) (dC (.int (60))))) (dNil)))))
  (dSeq (dSet 8 (dCall 2 g__law_share (dCons (dBin fIx (dVar 2) (dVar 4)) (dCons (dB1 fSum (dCons (dVar 2) (dNil))) (dNil)))))
  (dExpr (dMeth fAppend (dVar 3) (dCons (dLst true (dCons (dTup (dCons (dVar 4) (dCons (dBin fMod (dVar 5) (dC (.int (4)))) (dNil)))) (dCons (dVar 8) (dCons (dBin fSub (dBin fMod (dBin fMul (dVar 5) (dC (.int (7919)))) (dBin (fAdd false) (dBin fMul (dC (.int (2))) (dBin fPow (dC (.int (10))) (dC (.int (12))))) (dC (.int (1))))) (dBin fPow (dC (.int (10))) (dC (.int (12))))) (dCons (dVar 6) (dCons (dVar 7) (dNil))))))) (dNil)))))))
def wts (cv : Nat → Int) (n : Nat) : List Int := (List.range n).map (wtF cv)
theorem toInts_map : ∀ ws : List Int, toInts (ws.map ((fun x => AV.v x false) ∘ PV.int)) = some ws
  | [] => rfl
  | w :: ws => by rw [List.map_cons]; show (toInts (ws.map ((fun x => AV.v x false) ∘ PV.int))).map (w :: ·) = _; rw [toInts_map ws]; rfl
theorem sum_le {cv : Nat → Int} : ∀ n : Nat, (n : Int) ≤ (wts cv n).sum ∧ (wts cv n).sum ≤ 1000 * n
  | 0 => by simp [wts]
  | n + 1 => by
    obtain ⟨a, b⟩ := sum_le (cv := cv) n
    obtain ⟨c, d⟩ := wtF_ok (cv := cv) n
    simp only [wts, List.range_succ, List.map_append, List.sum_append, List.map_cons, List.map_nil, List.sum_cons, List.sum_nil] at *
    omega
theorem step_M {ns : List Int} {cv : Nat → Int} (hc : ∀ k : Nat, k ≤ 100 → f__law_cell_at [.scr ns, .int k] = .ok (.int (cv k)) false ∧ 0 ≤ cv k ∧ cv k < 2147483629) {n k : Nat} (hk : k < n) (hn : n ≤ 20) (rs : List Rw) (hl : rs.length = k) (b x5 x6 x7 x8 : Option AV) (fr : Bool) :
    ∃ y5 y6 y7 y8, bodyM [some (.v (.scr ns) false), b, some (.v (.lst true ((wts cv n).map .int)) fr), some (.ref 0), some (.v (.int (k : Int)) false), x5, x6, x7, x8] (stR rs) = .nx [some (.v (.scr ns) false), b, some (.v (.lst true ((wts cv n).map .int)) fr), some (.ref 0), some (.v (.int (k : Int)) false), y5, y6, y7, y8] (stR (rs ++ [mkR cv (wts cv n).sum k])) := by
  obtain ⟨s1, s2⟩ := sum_le (cv := cv) n
  have W0 : 0 < (wts cv n).sum := by omega
  obtain ⟨ec, c0, c1⟩ := hc (3 + k) (by omega)
  have ec' : f__law_cell_at [.scr ns, .int (3 + (k : Int))] = .ok (.int (cv (3 + k))) false := by rw [← ec]; rfl
  obtain ⟨a1, a2⟩ := fmod_pos (i := (cv (3 + k)).fdiv 1000) (j := 4) (by decide)
  obtain ⟨b1, b2⟩ := fmod_pos (i := (cv (3 + k)).fdiv 7) (j := 1000) (by decide)
  obtain ⟨d1, d2⟩ := fmod_pos (i := (cv (3 + k)).fdiv 11) (j := 60) (by decide)
  obtain ⟨p1, p2⟩ := fmod_pos (i := (cv (3 + k)).fdiv 4000) (j := 3) (by decide)
  obtain ⟨q1, q2⟩ := fmod_pos (i := (cv (3 + k)).fdiv 13) (j := 1000000) (by decide)
  obtain ⟨r1, r2⟩ := fmod_pos (i := (cv (3 + k)).fdiv 17) (j := 60) (by decide)
  have sm : ∀ (x : Int), 0 ≤ x → x < 2147483629 → Sz 40 x := fun x h1 h2 => .of_nat 2147483629 (by omega) (by decide +kernel)
  have m1 : mulC (((cv (3 + k)).fdiv 1000).fmod 4) (((cv (3 + k)).fdiv 7).fmod 1000) = true := mulC_of (sm _ a1 (by omega)) (sm _ b1 (by omega))
  have m2 : mulC (((cv (3 + k)).fdiv 4000).fmod 3) (((cv (3 + k)).fdiv 13).fmod 1000000) = true := mulC_of (sm _ p1 (by omega)) (sm _ q1 (by omega))
  have m3 : mulC (cv (3 + k)) 7919 = true := mulC_of (sm _ c0 c1) (b := 40) (.lit (by decide +kernel))
  have m4 : mulC 2 1000000000000 = true := by decide +kernel
  have g1 : g__law_share [.int (((cv (3 + k)).fdiv 1000).fmod 4 * ((cv (3 + k)).fdiv 7).fmod 1000), .int (1 + ((cv (3 + k)).fdiv 11).fmod 60)] = .ok (fr2 (mkR cv (wts cv n).sum k).left) false := by rw [← g__law_share_eq]; exact m__law_share _ _ (by omega)
  have g2 : g__law_share [.int (((cv (3 + k)).fdiv 4000).fmod 3 * ((cv (3 + k)).fdiv 13).fmod 1000000), .int (1 + ((cv (3 + k)).fdiv 17).fmod 60)] = .ok (fr2 (mkR cv (wts cv n).sum k).miss) false := by rw [← g__law_share_eq]; exact m__law_share _ _ (by omega)
  have g3 : g__law_share [.int (wtF cv k), .int (wts cv n).sum] = .ok (fr2 (mkR cv (wts cv n).sum k).part) false := by rw [← g__law_share_eq]; exact m__law_share _ _ W0
  have ix : fIx (.v (.lst true ((wts cv n).map .int)) fr) (.v (.int (k : Int)) false) (stR rs) = .ok (.v (.int (wtF cv k)) false) (stR rs) := by
    have : k < (wts cv n).length := by simp [wts]; exact hk
    simp [fIx, okP, L2.atI, L2.ixN, wts, hk]
  have su : fSum [.v (.lst true ((wts cv n).map .int)) fr] (stR rs) = .ok (.v (.int (wts cv n).sum) false) (stR rs) := by
    simp [fSum, intsOf, A.listOf, toInts_map]
  have ln := stR_len rs
  have fl : Nat.blt (refs rs.length).length 1000000 = true := by
    simp [refs, Nat.blt]; omega
  have pr := push_row rs (mkR cv (wts cv n).sum k)
  refine ⟨some (.v (.int (cv (3 + k))) false), some (.v (fr2 (mkR cv (wts cv n).sum k).left) false), some (.v (fr2 (mkR cv (wts cv n).sum k).miss) false), some (.v (fr2 (mkR cv (wts cv n).sum k).part) false), ?_⟩
  · simp [bodyM, dSeq, dSet, dExpr, dCall, dArg, dCons, dNil, dVar, dC, dBin, dI2, fAdd, dMeth, isLst, dLst, dTup, newL, toPs, A.strip, Res.then, Res.flow, callP, PRes.res, dB1, ec', g1, g2, g3, ix, su, m1, m2, m3, m4, lst0', lst0, fAppend, putL, fl, ln, Nat.ble, Nat.beq]
    simp [stR, refs, List.range_succ, rowA, rowPs, mkR]

theorem rows_loop {ns : List Int} {cv : Nat → Int} (hc : ∀ k : Nat, k ≤ 100 → f__law_cell_at [.scr ns, .int k] = .ok (.int (cv k)) false ∧ 0 ≤ cv k ∧ cv k < 2147483629) {n : Nat} (hn : n ≤ 20) (b : Option AV) (fr : Bool) : ∀ (m k : Nat) (x4 x5 x6 x7 x8 : Option AV), k + m = n →
    ∃ y4 y5 y6 y7 y8, forL (gN 4) bodyM ((List.range' k m).map fun (i : Nat) => .v (.int (i : Int)) false) [some (.v (.scr ns) false), b, some (.v (.lst true ((wts cv n).map .int)) fr), some (.ref 0), x4, x5, x6, x7, x8] (stR ((List.range k).map (mkR cv (wts cv n).sum))) =
      .nx [some (.v (.scr ns) false), b, some (.v (.lst true ((wts cv n).map .int)) fr), some (.ref 0), y4, y5, y6, y7, y8] (stR ((List.range n).map (mkR cv (wts cv n).sum)))
  | 0, k, x4, x5, x6, x7, x8, h => by
    have : k = n := by omega
    subst this
    exact ⟨x4, x5, x6, x7, x8, rfl⟩
  | m + 1, k, x4, x5, x6, x7, x8, h => by
    obtain ⟨y5, y6, y7, y8, e⟩ := step_M hc (n := n) (k := k) (by omega) hn ((List.range k).map (mkR cv (wts cv n).sum)) (by simp) b x5 x6 x7 x8 fr
    obtain ⟨z4, z5, z6, z7, z8, e2⟩ := rows_loop hc hn b fr m (k + 1) (some (.v (.int (k : Int)) false)) y5 y6 y7 y8 (by omega)
    refine ⟨z4, z5, z6, z7, z8, ?_⟩
    rw [← e2, List.range'_succ, List.map_cons]
    have er : (List.range (k + 1)).map (mkR cv (wts cv n).sum) = (List.range k).map (mkR cv (wts cv n).sum) ++ [mkR cv (wts cv n).sum k] := by simp [List.range_succ]
    rw [er]
    have sg : gN 4 (.v (.int (k : Int)) false) [some (.v (.scr ns) false), b, some (.v (.lst true ((wts cv n).map .int)) fr), some (.ref 0), x4, x5, x6, x7, x8] = some [some (.v (.scr ns) false), b, some (.v (.lst true ((wts cv n).map .int)) fr), some (.ref 0), some (.v (.int (k : Int)) false), x5, x6, x7, x8] := rfl
    conv => lhs; unfold forL
    rw [sg]
    simp only
    rw [e]
theorem dSeq_nx {a b : DS} {S S1 : Slots} {st st1 : Store} (h : a S st = .nx S1 st1) : dSeq a b S st = b S1 st1 := by
  unfold dSeq
  rw [h]
theorem dSet_ok {i : Nat} {de : DE} {S : Slots} {st st1 : Store} {x : AV} (h : de S st = .ok x st1) : dSet i de S st = .nx (S.set i (some x)) st1 := by
  unfold dSet
  rw [h]
  rfl
theorem dFor_at {it : DA} {tg : DG} {b : DS} {S : Slots} {st st1 : Store} {xs : List AV} (h : it S st = .ok xs st1) : dFor it tg b S st = forL tg b xs S st1 := by
  unfold dFor
  rw [h]
  rfl
theorem dRet_ok {de : DE} {S : Slots} {st st1 : Store} {x : AV} (h : de S st = .ok x st1) : dRet de S st = .rt x st1 := by
  unfold dRet
  rw [h]
  rfl
theorem runI_rt {N : Nat} {d : DS} {xs : List AV} {st st1 : Store} {x : AV} (h : d (slots0 N xs) st = .rt x st1) : runI N d xs st = .ok x st1 := by
  unfold runI
  rw [h]
theorem range1_at {da : DA} {S : Slots} {st st1 : Store} {n : Nat} {fr : Bool} (h : da S st = .ok [.v (.int (n : Int)) fr] st1) (b : bnd n = true) : dRange1 da S st = .ok (rangeL 0 n) st1 := by
  have e : asI1 [.v (.int (n : Int)) fr] = some (n : Int) := rfl
  simp only [dRange1, h, Res.then, e, b, cond_true, Int.toNat_natCast]
theorem comp_v {vs : List Nat} {it : DA} {tg : DG} {t : DT} {e : DE} {S : Slots} {st st1 st2 : Store} {xs ys : List AV} {ps : List PV} (h1 : it S st = .ok xs st1) (h2 : compL tg t e (wipeS S vs) xs st1 = .ok ys st2) (h3 : ys.length ≤ 1000000) (h4 : toPs ys = some ps) : dComp false vs it tg t e S st = .ok (.v (.lst true ps) true) st2 := by
  have h5 : Nat.ble ys.length 1000000 = true := Nat.ble_eq.mpr h3
  unfold dComp
  rw [h1]
  show ((noEx (compL tg t e (wipeS S vs) xs st1)).then _) = _
  rw [h2]
  show (bif Nat.ble ys.length 1000000 then newL false ys st2 else .bad) = _
  rw [h5]
  show newL false ys st2 = _
  unfold newL
  rw [h4]
  rfl
theorem e_made {ns : List Int} {cv : Nat → Int} (hc : ∀ k : Nat, k ≤ 100 → f__law_cell_at [.scr ns, .int k] = .ok (.int (cv k)) false ∧ 0 ≤ cv k ∧ cv k < 2147483629) {n : Nat} (hn : n ≤ 20) :
    i__law_made [.v (.scr ns) false, .v (.int (n : Int)) false] [] = .ok (.ref 0) (stR ((List.range n).map (mkR cv (wts cv n).sum))) := by
  have rg : rangeL 0 n = (List.range n).map fun (i : Nat) => .v (.int (i : Int)) false := by simp [rangeL]
  have rg' : rangeL 0 n = (List.range' 0 n).map fun (i : Nat) => .v (.int (i : Int)) false := by rw [rg, List.range_eq_range']
  obtain ⟨y4, y5, y6, y7, y8, e⟩ := rows_loop hc hn (some (.v (.int (n : Int)) false)) true n 0 none none none none none (by omega)
  have s0 : stR ((List.range 0).map (mkR cv (wts cv n).sum)) = [.lst []] := rfl
  rw [s0] at e
  have b1 : bnd (n : Int) = true := by simp [bnd]; omega
  have cm : compL (gN 4) dYes (dBin (fAdd false) (dC (.int (1))) (dBin fMod (dCall 2 f__law_cell_at (dCons (dVar 0) (dCons (dBin (fAdd false) (dC (.int (3))) (dVar 4)) (dNil)))) (dBin fIx (dLst false (dCons (dC (.int (3))) (dCons (dC (.int (1000))) (dNil)))) (dBin fMod (dVar 4) (dC (.int (2)))))))
      [some (.v (.scr ns) false), some (.v (.int (n : Int)) false), none, none, none, none, none, none, none] (rangeL 0 n) [] = .ok ((List.range n).map fun k => .v (.int (wtF cv k)) false) [] := by
    rw [rg]
    have := compL_map (tg := gN 4) (e := (dBin (fAdd false) (dC (.int (1))) (dBin fMod (dCall 2 f__law_cell_at (dCons (dVar 0) (dCons (dBin (fAdd false) (dC (.int (3))) (dVar 4)) (dNil)))) (dBin fIx (dLst false (dCons (dC (.int (3))) (dCons (dC (.int (1000))) (dNil)))) (dBin fMod (dVar 4) (dC (.int (2))))))))
      (S0 := [some (.v (.scr ns) false), some (.v (.int (n : Int)) false), none, none, none, none, none, none, none]) (st := []) (f := fun x => match x with | .v (.int k) _ => .v (.int (wtF cv k.toNat)) false | x => x)
      ((List.range n).map fun (i : Nat) => .v (.int (i : Int)) false) (fun x hx => ?_)
    · rw [this, List.map_map]; rfl
    · obtain ⟨k, hk, rfl⟩ := List.mem_map.mp hx
      have hk := List.mem_range.mp hk
      obtain ⟨ec, c0, c1⟩ := hc (3 + k) (by omega)
      have ec' : f__law_cell_at [.scr ns, .int (3 + (k : Int))] = .ok (.int (cv (3 + k))) false := by rw [← ec]; rfl
      refine ⟨_, rfl, ?_⟩
      have h2 : (k : Int).fmod 2 = ((k % 2 : Nat) : Int) := by rw [Int.fmod_eq_emod_of_nonneg _ (by omega)]; rfl
      rcases Nat.mod_two_eq_zero_or_one k with z | z
      · rw [z] at h2
        simp [ec', h2, wtF, z, runP, runI, slots0, A.strip, dRet, dRetN, Res.flow, Res.then, dBin, dI2, dVar, dC, fIx, okP, okV, freeze, L2.atI, L2.ixN, dSeq, dIf, dSet, dExpr, dB, dArg, dCons, dNil, callP, toPs, toP, PRes.res, dNext, dB1, fLen, lenOf, fAbs, fAdd, dAnd, dOr, dNot, dAndV, dOrV, dNotV, dBV, dIfE, dTup, dLst, newL, dAsg, gN, gT, gU, unP, gC, gE, dForE, forR, lstAt, turnsAt, dCompE, compR, isLst, dMeth, dMeth0, putL, itemsOf, fAppend, fExtend, fClear, fPop, fPopAt, fInsert, fReverse, fPut, dPut, fInts, dAug, dNeg, dPar, fInt, fMax2, fMin2, Nat.ble, dBreak, dCont, dComp, compL, noEx, wipeS, dYes, dRange1, dRange2, asI1, asI2, bnd, dItem, itemsV, dSlice, dPart, dNoPart, fSlice, A.cut, HT.sIx, A.listOf,  noBor, noBors, views, view, viewN, optAll]
      · rw [z] at h2
        simp [ec', h2, wtF, z, runP, runI, slots0, A.strip, dRet, dRetN, Res.flow, Res.then, dBin, dI2, dVar, dC, fIx, okP, okV, freeze, L2.atI, L2.ixN, dSeq, dIf, dSet, dExpr, dB, dArg, dCons, dNil, callP, toPs, toP, PRes.res, dNext, dB1, fLen, lenOf, fAbs, fAdd, dAnd, dOr, dNot, dAndV, dOrV, dNotV, dBV, dIfE, dTup, dLst, newL, dAsg, gN, gT, gU, unP, gC, gE, dForE, forR, lstAt, turnsAt, dCompE, compR, isLst, dMeth, dMeth0, putL, itemsOf, fAppend, fExtend, fClear, fPop, fPopAt, fInsert, fReverse, fPut, dPut, fInts, dAug, dNeg, dPar, fInt, fMax2, fMin2, Nat.ble, dBreak, dCont, dComp, compL, noEx, wipeS, dYes, dRange1, dRange2, asI1, asI2, bnd, dItem, itemsV, dSlice, dPart, dNoPart, fSlice, A.cut, HT.sIx, A.listOf,  noBor, noBors, views, view, viewN, optAll]
  have b0 : Nat.ble 0 1000000 = true := rfl
  have le : Nat.ble n 1000000 = true := by rw [Nat.ble_eq]; omega
  have tp : ∀ l : List Nat, toPs (l.map fun k => .v (.int (wtF cv k)) false) = some (l.map fun k => .int (wtF cv k)) := fun l => by
    induction l with
    | nil => rfl
    | cons x l ih => rw [List.map_cons, toPs, ih]; rfl
  have wt' : (wts cv n).map PV.int = (List.range n).map fun k => .int (wtF cv k) := by simp [wts]
  rw [wt', ← rg'] at e
  have it : dRange1 (dCons (dVar 1) (dNil)) [some (.v (.scr ns) false), some (.v (.int (n : Int)) false), none, none, none, none, none, none, none] [] = .ok (rangeL 0 n) [] := range1_at (fr := false) rfl b1
  have c1 := comp_v (vs := [4]) it cm (by simp; omega) (tp _)
  have it2 : dRange1 (dCons (dVar 1) (dNil)) [some (.v (.scr ns) false), some (.v (.int (n : Int)) false), some (.v (.lst true ((List.range n).map fun k => .int (wtF cv k))) true), some (.ref 0), none, none, none, none, none] [.lst []] = .ok (rangeL 0 n) [.lst []] := range1_at (fr := false) rfl b1
  have l0 : dLst true dNil [some (.v (.scr ns) false), some (.v (.int (n : Int)) false), some (.v (.lst true ((List.range n).map fun k => .int (wtF cv k))) true), none, none, none, none, none, none] [] = .ok (.ref 0) [.lst []] := by simp [dLst, dNil, Res.then, newL, Nat.ble]
  have f2 := (dFor_at (tg := gN 4) (b := bodyM) it2).trans e
  exact runI_rt (d := d__law_made) ((dSeq_nx (dSet_ok c1)).trans ((dSeq_nx (dSet_ok l0)).trans ((dSeq_nx f2).trans (dRet_ok rfl))))
theorem share_step {p q r : Int × Int} {W S w : Int} (p0 : 0 < p.2) (q0 : 0 < q.2) (hp : p.1 * W = S * p.2) (hq : q.1 * W = w * q.2) (hr : r.1 * (p.2 * q.2) = (p.1 * q.2 + q.1 * p.2) * r.2) : r.1 * W = (S + w) * r.2 := by
  have z : p.2 * q.2 ≠ 0 := Int.ne_of_gt (Int.mul_pos p0 q0)
  refine Int.eq_of_mul_eq_mul_right z ?_
  have e1 : r.1 * W * (p.2 * q.2) = W * (r.1 * (p.2 * q.2)) := by grind
  rw [e1, hr]
  have e2 : W * ((p.1 * q.2 + q.1 * p.2) * r.2) = r.2 * ((p.1 * W) * q.2 + (q.1 * W) * p.2) := by grind
  rw [e2, hp, hq]
  grind
theorem shF_val {cv : Nat → Int} {W : Int} (hW : 0 < W) : ∀ (ks : List Nat) (S : Int) (p : Int × Int), 0 < p.2 → Int.gcd p.1 p.2 = 1 → p.1 * W = S * p.2 →
    0 < (shF (ks.map (mkR cv W)) p).2 ∧ Int.gcd (shF (ks.map (mkR cv W)) p).1 (shF (ks.map (mkR cv W)) p).2 = 1 ∧ (shF (ks.map (mkR cv W)) p).1 * W = (S + (ks.map (wtF cv)).sum) * (shF (ks.map (mkR cv W)) p).2
  | [], S, p, h0, h1, h2 => by
    refine ⟨h0, h1, ?_⟩
    simp
    exact h2
  | k :: ks, S, p, h0, h1, h2 => by
    have lq := lowF_low (wtF cv k) W (by omega)
    have q0 := lq.pos
    have lr := lowF_low (p.1 * (lowF (wtF cv k) W).2 + (lowF (wtF cv k) W).1 * p.2) (p.2 * (lowF (wtF cv k) W).2) (Int.ne_of_gt (Int.mul_pos h0 (by omega)))
    have r0 := lr.pos
    have e := share_step (p := p) (q := lowF (wtF cv k) W) (r := plusF p (lowF (wtF cv k) W)) h0 (by omega) h2 lq.eq lr.eq
    have ih := shF_val (cv := cv) hW ks (S + wtF cv k) (plusF p (lowF (wtF cv k) W)) (Int.lt_of_lt_of_le Int.zero_lt_one r0) lr.one e
    have sh : shF ((k :: ks).map (mkR cv W)) p = shF (ks.map (mkR cv W)) (plusF p (lowF (wtF cv k) W)) := rfl
    rw [sh, List.map_cons, List.sum_cons, ← Int.add_assoc]
    exact ih
theorem shF_made {cv : Nat → Int} {n : Nat} (hn : 1 ≤ n) : shF ((List.range n).map (mkR cv (wts cv n).sum)) (0, 1) = (1, 1) := by
  obtain ⟨s1, s2⟩ := sum_le (cv := cv) n
  have W0 : 0 < (wts cv n).sum := by omega
  obtain ⟨a, b, c⟩ := shF_val (cv := cv) W0 (List.range n) 0 (0, 1) (by decide) (by decide) (by simp)
  generalize shF ((List.range n).map (mkR cv (wts cv n).sum)) (0, 1) = r at *
  rw [Int.zero_add] at c
  have c' : r.1 * (wts cv n).sum = (wts cv n).sum * r.2 := c
  have e : r.1 = r.2 := by
    rw [Int.mul_comm] at c'
    exact Int.eq_of_mul_eq_mul_left (Int.ne_of_gt W0) c'
  obtain ⟨x, y⟩ := r
  simp only at e a b
  subst e
  rw [Int.gcd_self] at b
  have : x = 1 := by omega
  rw [this]
theorem lowF_nonneg {t b : Int} (ht : 0 ≤ t) (hb : 0 < b) : 0 ≤ (lowF t b).1 := by
  have l := lowF_low t b (by omega)
  have p := l.pos
  by_cases h : 0 ≤ (lowF t b).1
  · exact h
  · have h1 : (lowF t b).1 * b < 0 := Int.mul_neg_of_neg_of_pos (by omega) hb
    have h2 : 0 ≤ t * (lowF t b).2 := Int.mul_nonneg ht (by omega)
    rw [← l.eq] at h2
    omega
theorem lowF_pos {t b : Int} (ht : 0 < t) (hb : 0 < b) : 0 < (lowF t b).1 := by
  have l := lowF_low t b (by omega)
  have p := l.pos
  have h2 : 0 < t * (lowF t b).2 := Int.mul_pos ht (by omega)
  rw [← l.eq] at h2
  by_cases h : 0 < (lowF t b).1
  · exact h
  · have := Int.mul_nonpos_of_nonpos_of_nonneg (a := (lowF t b).1) (b := b) (by omega) (by omega)
    omega
theorem good_made {cv : Nat → Int} {W : Int} {k : Nat} (hW : 0 < W) : good (mkR cv W k) = true := by
  obtain ⟨w1, w2⟩ := wtF_ok (cv := cv) k
  obtain ⟨a1, a2⟩ := fmod_pos (i := (cv (3 + k)).fdiv 1000) (j := 4) (by decide)
  obtain ⟨b1, b2⟩ := fmod_pos (i := (cv (3 + k)).fdiv 7) (j := 1000) (by decide)
  obtain ⟨d1, d2⟩ := fmod_pos (i := (cv (3 + k)).fdiv 11) (j := 60) (by decide)
  obtain ⟨p1, p2⟩ := fmod_pos (i := (cv (3 + k)).fdiv 4000) (j := 3) (by decide)
  obtain ⟨q1, q2⟩ := fmod_pos (i := (cv (3 + k)).fdiv 13) (j := 1000000) (by decide)
  obtain ⟨r1, r2⟩ := fmod_pos (i := (cv (3 + k)).fdiv 17) (j := 60) (by decide)
  have h1 : 0 < (mkR cv W k).part.1 := lowF_pos (by omega) hW
  have h2 : 0 ≤ (mkR cv W k).left.1 := lowF_nonneg (Int.mul_nonneg a1 b1) (by omega)
  have h3 : 0 ≤ (mkR cv W k).miss.1 := lowF_nonneg (Int.mul_nonneg p1 q1) (by omega)
  simp [good, h1, h2, h3]

/-! the store: the outer list at 0, rows at the places is -/
structure Hst (st : Store) (is : List Nat) (rs : List Rw) : Prop where
  out : lstAt st 0 = some (is.map AV.ref)
  row : Paired (fun i r => lstAt st i = some ((rowPs r).map (AV.v · false))) is rs
theorem hst_len {st : Store} {is : List Nat} {rs : List Rw} (h : Hst st is rs) : is.length = rs.length := Paired.length h.row
theorem lstAt_row (rs : List Rw) : ∀ (i : Nat) (h : i < rs.length), lstAt (stR rs) (i + 1) = some ((rowPs rs[i]).map (AV.v · false)) := fun i h => by
  simp [lstAt, stR, h, rowA]
theorem pairedMk {α β : Type} {P : α → β → Prop} : ∀ {xs : List α} {ys : List β}, xs.length = ys.length → (∀ i (h : i < xs.length) (h' : i < ys.length), P xs[i] ys[i]) → Paired P xs ys
  | [], [], _, _ => .nil
  | x :: xs, y :: ys, l, h => .cons (h 0 (by simp) (by simp)) (pairedMk (by simpa using l) fun i a b => h (i + 1) (by simpa using a) (by simpa using b))
theorem hst_made (rs : List Rw) : Hst (stR rs) ((List.range rs.length).map (· + 1)) rs := by
  refine ⟨by rw [lst0', refs]; simp, pairedMk (by simp) fun i a b => ?_⟩
  simp only [List.getElem_map, List.getElem_range]
  exact lstAt_row rs i b
/-- [tuple(row) for row in rows] -/
theorem comp_rows {st : Store} {is : List Nat} {rs : List Rw} (h : Hst st is rs) (S0 : Slots) (hS : S0.length = 11) : ∀ (m i : Nat), i + m = is.length → compR 0 (gN 10) dYes (dB1 fTuple (dCons (dVar 10) (dNil))) S0 (m + 1) i st = .ok ((rs.drop i).map fun r => .v (rowT r) false) st
  | 0, i, e => by
    have hl := hst_len h
    have : (is.map AV.ref)[i]? = none := by rw [List.getElem?_eq_none_iff]; simp; omega
    unfold compR
    rw [h.out]
    simp only [this]
    rw [List.drop_eq_nil_of_le (by omega)]
    rfl
  | m + 1, i, e => by
    have hl := hst_len h
    have hi : i < is.length := by omega
    have ir : i < rs.length := by omega
    have e1 : (is.map AV.ref)[i]? = some (.ref is[i]) := by simp [hi]
    obtain ⟨r, er, pr⟩ := pairedGet h.row (List.getElem?_eq_getElem hi)
    have er' : rs[i] = r := by rw [List.getElem?_eq_getElem ir] at er; cases er; rfl
    unfold compR
    rw [h.out]
    simp only [e1]
    have ih := comp_rows h S0 hS m (i + 1) (by omega)
    have ev : dB1 fTuple (dCons (dVar 10) (dNil)) (S0.set 10 (some (.ref is[i]))) st = .ok (.v (rowT r) false) st := by
      have g : (S0.set 10 (some (AV.ref is[i])))[10]? = some (some (.ref is[i])) := by simp [hS]
      have q : listOf st (.ref is[i]) = some ((rowPs r).map (AV.v · false)) := by
        unfold lstAt at pr
        split at pr
        · rename_i xs hx
          cases pr
          simp [A.listOf, hx]
        · cases pr
      simp only [dB1, dCons, dVar, g, dNil, Res.then, fTuple, q]
      rfl
    have tg : gN 10 (A.strip (.ref is[i])) S0 = some (S0.set 10 (some (.ref is[i]))) := rfl
    rw [tg]
    simp only [dYes, Res.then, cond_true]
    rw [ev]
    simp only
    rw [ih]
    rw [List.drop_eq_getElem_cons ir, List.map_cons, er']
/-- rows as drawn: small -/
structure RwS (r : Rw) : Prop where
  part : Pz 100 r.part
  had : Sz 100 r.had
  left : Pz 100 r.left
  miss : Pz 100 r.miss
theorem RwS.ok {r : Rw} (h : RwS r) : RwOk r := ⟨h.part.mono (by decide), h.had.mono (by decide), h.left.mono (by decide), h.miss.mono (by decide)⟩
theorem mkR_s {cv : Nat → Int} {W : Int} {k : Nat} (hW : 0 < W) (hW2 : W ≤ 20000) : RwS (mkR cv W k) := by
  obtain ⟨w1, w2⟩ := wtF_ok (cv := cv) k
  have b1 : Sz 100 W := .of_nat 20000 (by omega) (by decide +kernel)
  have sm : ∀ (x y : Int) (a b : Nat), 0 ≤ x → 0 ≤ y → x < a → y < b → a ≤ 1000000 → b ≤ 1000000 → Sz 100 (x * y) := fun x y a b h1 h2 h3 h4 h5 h6 => by
    have p : Sz 40 x := .of_nat 1000000 (by omega) (by decide +kernel)
    have q : Sz 40 y := .of_nat 1000000 (by omega) (by decide +kernel)
    exact (p.mul q).mono (by decide)
  refine ⟨Pz.low (.of_nat 1000 (by omega) (by decide +kernel)) b1 (by omega), ?_, ?_, ?_⟩
  · obtain ⟨a, b⟩ := fmod_pos (i := cv (3 + k) * 7919) (j := 2 * 1000000000000 + 1) (by decide)
    show Sz 100 ((cv (3 + k) * 7919).fmod (2 * 1000000000000 + 1) - 1000000000000)
    exact .of_nat 2000000000001 (by omega) (by decide +kernel)
  · obtain ⟨a1, a2⟩ := fmod_pos (i := (cv (3 + k)).fdiv 1000) (j := 4) (by decide)
    obtain ⟨b1, b2⟩ := fmod_pos (i := (cv (3 + k)).fdiv 7) (j := 1000) (by decide)
    obtain ⟨c1, c2⟩ := fmod_pos (i := (cv (3 + k)).fdiv 11) (j := 60) (by decide)
    exact Pz.low (sm _ _ 4 1000 a1 b1 a2 b2 (by decide) (by decide)) (.of_nat 61 (by omega) (by decide +kernel)) (by omega)
  · obtain ⟨a1, a2⟩ := fmod_pos (i := (cv (3 + k)).fdiv 4000) (j := 3) (by decide)
    obtain ⟨b1, b2⟩ := fmod_pos (i := (cv (3 + k)).fdiv 13) (j := 1000000) (by decide)
    obtain ⟨c1, c2⟩ := fmod_pos (i := (cv (3 + k)).fdiv 17) (j := 60) (by decide)
    exact Pz.low (sm _ _ 3 1000000 a1 b1 a2 b2 (by decide) (by decide)) (.of_nat 61 (by omega) (by decide +kernel)) (by omega)

section
variable {rs : List Rw} {a : Nat} (ha : a < rs.length)
include ha
theorem ixr : fIx (.ref 0) (.v (.int (a : Int)) false) (stR rs) = .ok (.ref (a + 1)) (stR rs) := by
  have h : a < (refs rs.length).length := by simp [refs]; exact ha
  have e : L2.atI (refs rs.length) (a : Int) = some (.ref (a + 1)) := by
    simp [L2.atI, L2.ixN, refs, ha]
  have e0 : (stR rs)[0]? = some (.lst (refs rs.length)) := rfl
  simp only [fIx, e0, e, okV, A.strip]
theorem row_at : (stR rs)[a + 1]? = some (.lst ((rowPs rs[a]).map (AV.v · false))) := by simp [stR, ha, rowA]
theorem ixf {j : Int} {f : Bool} {p : PV} (hj : L2.atI (rowPs rs[a]) j = some p) : fIx (.ref (a + 1)) (.v (.int j) f) (stR rs) = .ok (.v p false) (stR rs) := by
  have e : L2.atI ((rowPs rs[a]).map (AV.v · false)) j = some (.v p false) := by
    unfold L2.atI at hj ⊢
    rw [List.length_map]
    cases q : L2.ixN (rowPs rs[a]).length j with
    | none => rw [q] at hj; cases hj
    | some i =>
      rw [q] at hj
      have hj : (rowPs rs[a])[i]? = some p := hj
      show ((rowPs rs[a]).map (AV.v · false))[i]? = _
      rw [List.getElem?_map, hj]
      rfl
  simp only [fIx, row_at ha, e, okV, A.strip]
theorem put_at {j : Int} {i : Nat} {f g : Bool} {p : PV} {r' : Rw} (hj : L2.ixN 5 j = some i) (hr : (rowPs rs[a]).set i p = rowPs r') : fPut (.ref (a + 1)) (.v (.int j) f) (.v p g) (stR rs) = some (stR (rs.set a r')) := by
  have e : lstAt (stR rs) (a + 1) = some ((rowPs rs[a]).map (AV.v · false)) := lstAt_row rs a ha
  have hl : ((rowPs rs[a]).map (AV.v · false)).length = 5 := by simp [rowPs]
  unfold fPut
  simp only [e, hl, hj, A.strip]
  have : ((rowPs rs[a]).map (AV.v · false)).set i (.v p false) = (rowPs r').map (AV.v · false) := by rw [← hr, List.map_set]
  rw [this]
  simp [stR, rowA, List.map_set]
end

theorem get_s {rs : List Rw} (h : ∀ r ∈ rs, RwS r) {a : Nat} (ha : a < rs.length) : RwS rs[a] := h _ (List.getElem_mem ha)
theorem set_ok {rs : List Rw} (h : ∀ r ∈ rs, RwS r) {a : Nat} {r' : Rw} (h' : RwOk r') : ∀ r ∈ rs.set a r', RwOk r := fun r hr => by
  rcases List.mem_or_eq_of_mem_set hr with z | z
  · exact (h r z).ok
  · rw [z]; exact h'
theorem down_ok {p : Int × Int} (h : Pz 100 p) {dn : Int} (e : dn = p.1.fdiv p.2 + 2) : Sz 200 dn := by
  have q := h.pos
  have s1 : Sz 101 (p.1.fdiv p.2) := by
    have a := h.a
    unfold Sz at a ⊢
    rw [Int.fdiv_eq_ediv_of_nonneg _ (by omega)]
    have l : (p.1 / p.2).natAbs ≤ p.1.natAbs + 1 := by
      by_cases z : 0 ≤ p.1
      · have := Int.ediv_le_self p.2 z
        have := Int.ediv_nonneg z (by omega : 0 ≤ p.2)
        omega
      · have h1 : p.1 ≤ p.1 / p.2 := Int.le_ediv_of_mul_le q (by
          have := Int.mul_le_mul_of_nonpos_left (a := p.1) (b := p.2) (c := 1) (by omega) (by omega)
          omega)
        have h2 : p.1 / p.2 < 0 := Int.ediv_neg_of_neg_of_pos (by omega) q
        omega
    have : (2 : Nat) ^ 101 = 2 ^ 100 + 2 ^ 100 := by decide
    have : (1 : Nat) ≤ 2 ^ 100 := by decide
    omega
  rw [e]
  exact (s1.add (.lit (by decide +kernel))).mono (by decide)
theorem neg_ok {dn : Int} (h : Sz 200 dn) : Pz 200 (0 - dn, 1) := ⟨(by decide : (0 : Int) < 1), (h.of_le (by omega) : Sz 200 (0 - dn)), (.lit (by decide +kernel) : Sz 200 1)⟩
theorem un2 {p : Int × Int} : fr2 p = .tup [.int p.1, .int p.2] := rfl
theorem map_erase {α β : Type} (f : α → β) : ∀ (n : Nat) (l : List α), (l.eraseIdx n).map f = (l.map f).eraseIdx n
  | _, [] => rfl
  | 0, _ :: _ => rfl
  | n + 1, x :: l => by
    show f x :: (l.eraseIdx n).map f = f x :: (l.map f).eraseIdx n
    rw [map_erase f n l]
theorem pop_at {st : Store} {n : Nat} {xs : List AV} {i : Int} {k : Nat} {y : AV} {fr : Bool} (h1 : lstAt st n = some xs) (h2 : bnd i = true) (h3 : L2.ixN xs.length i = some k) (h4 : xs[k]? = some y) : fPopAt (.ref n) [.v (.int i) fr] st = putL n (xs.eraseIdx k) (A.strip y) st := by
  unfold fPopAt
  simp only [h1]
  rw [h2]
  simp only [cond_true, h3, h4]
theorem dIf_t {t : DT} {a b : DS} {S : Slots} {st st1 : Store} (h : t S st = .ok true st1) : dIf t a b S st = a S st1 := by
  unfold dIf
  rw [h]
  rfl
theorem dIf_f {t : DT} {a b : DS} {S : Slots} {st st1 : Store} (h : t S st = .ok false st1) : dIf t a b S st = b S st1 := by
  unfold dIf
  rw [h]
  rfl
theorem dExpr_ok {de : DE} {S : Slots} {st st1 : Store} {x : AV} (h : de S st = .ok x st1) : dExpr de S st = .nx S st1 := by
  unfold dExpr
  rw [h]
  rfl
theorem dMeth_ok {f : AV → List AV → Store → Res AV} {de : DE} {da : DA} {S : Slots} {st st1 st2 st3 : Store} {x y : AV} {xs : List AV} (h1 : de S st = .ok x st1) (h2 : isLst st1 x = true) (h3 : da S st1 = .ok xs st2) (h4 : f x xs st2 = .ok y st3) : dMeth f de da S st = .ok y st3 := by
  unfold dMeth
  rw [h1]
  show (bif isLst st1 x then (da S st1).then fun xs st2 => f x xs st2 else .bad) = _
  rw [h2]
  show ((da S st1).then fun xs st2 => f x xs st2) = _
  rw [h3]
  exact h4
/-- what spoiling leaves -/
abbrev Spoilt (rs : List Rw) (v : Int) : Prop := ∃ st' is' rs', i__law_spoilt [.ref 0, .v (.int v) false] (stR rs) = .ok (.v .non false) st' ∧ Hst st' is' rs' ∧ (∀ r ∈ rs', RwOk r) ∧ rs'.length ≤ 20
theorem spoilt_set {rs : List Rw} {v : Int} (h : ∀ r ∈ rs, RwS r) (hn : rs.length ≤ 20) {a : Nat} {r' : Rw} (h' : RwOk r') (e : i__law_spoilt [.ref 0, .v (.int v) false] (stR rs) = .ok (.v .non false) (stR (rs.set a r'))) : Spoilt rs v :=
  ⟨_, _, _, e, hst_made _, set_ok h h', by rw [List.length_set]; exact hn⟩
theorem e_spoilt {rs : List Rw} (h : ∀ r ∈ rs, RwS r) (h1 : 1 ≤ rs.length) (hn : rs.length ≤ 20) (v : Int) : Spoilt rs v := by
  obtain ⟨x0, x1⟩ := fmod_pos (i := v.fdiv 16) (j := rs.length) (by omega)
  obtain ⟨a, ea, ha⟩ : ∃ a : Nat, (v.fdiv 16).fmod rs.length = a ∧ a < rs.length := ⟨((v.fdiv 16).fmod rs.length).toNat, by omega, by omega⟩
  obtain ⟨y0, y1⟩ := fmod_pos (i := v) (j := 9) (by decide)
  obtain ⟨z0, z1⟩ := fmod_pos (i := v.fdiv 800) (j := 1000000) (by decide)
  obtain ⟨u0, u1⟩ := fmod_pos (i := v.fdiv 400) (j := 2) (by decide)
  have nz : ¬ (rs.length : Int) = 0 := by omega
  -- the small share
  obtain ⟨sg, esg, hsg⟩ : ∃ sg : Int, L2.atI [PV.int 1, .int (-1)] ((v.fdiv 400).fmod 2) = some (.int sg) ∧ sg.natAbs = 1 := by
    rcases (by omega : (v.fdiv 400).fmod 2 = 0 ∨ (v.fdiv 400).fmod 2 = 1) with z | z <;> rw [z]
    · exact ⟨1, rfl, rfl⟩
    · exact ⟨-1, rfl, rfl⟩
  obtain ⟨pz, epz, hpz⟩ : ∃ pz : Int × Int, L2.atI [PV.tup [.int 0, .int 1], .tup [.int (-1), .int 3]] ((v.fdiv 400).fmod 2) = some (fr2 pz) ∧ Pz 100 pz := by
    rcases (by omega : (v.fdiv 400).fmod 2 = 0 ∨ (v.fdiv 400).fmod 2 = 1) with z | z <;> rw [z]
    · exact ⟨(0, 1), rfl, by decide, .lit (by decide +kernel), .lit (by decide +kernel)⟩
    · exact ⟨(-1, 3), rfl, by decide, .lit (by decide +kernel), .lit (by decide +kernel)⟩
  have gs : g__law_share [.int sg, .int (1 + (v.fdiv 800).fmod 1000000)] = .ok (fr2 (lowF sg (1 + (v.fdiv 800).fmod 1000000))) false := by rw [← g__law_share_eq]; exact m__law_share _ _ (by omega)
  have ps : Pz 100 (lowF sg (1 + (v.fdiv 800).fmod 1000000)) := Pz.low (.of_nat 1 (by omega) (by decide +kernel)) (.of_nat 1000001 (by omega) (by decide +kernel)) (by omega)
  generalize lowF sg (1 + (v.fdiv 800).fmod 1000000) = sm at *
  have r := get_s h ha
  have el : lenOf (stR rs) (.ref 0) = some rs.length := by simp [lenOf, stR, refs]
  have i0 := ixr ha
  have gp : ∀ {p : Int × Int}, Pz 100 p → g__law_plus [fr2 p, fr2 sm] = .ok (fr2 (plusF p sm)) false := fun hp => by rw [← g__law_plus_eq]; exact e_lplus hp ps (by decide)
  have pp : ∀ {p : Int × Int}, Pz 100 p → Pz 1000 (plusF p sm) := fun hp => (hp.plus ps).mono (by decide)
  have e1 := ixf ha (j := 1) (f := false) (p := fr2 rs[a].part) rfl
  have e2 := ixf ha (j := 2) (f := false) (p := .int rs[a].had) rfl
  have e3 := ixf ha (j := 3) (f := false) (p := fr2 rs[a].left) rfl
  have e4 := ixf ha (j := 4) (f := false) (p := fr2 rs[a].miss) rfl
  have nn : ¬ rs = [] := fun z => by rw [z] at h1; exact absurd h1 (by decide)
  have j1 : ∀ st fr, fIx (.v (.lst true [.int 1, .int (-1)]) fr) (.v (.int ((v.fdiv 400).fmod 2)) false) st = .ok (.v (.int sg) false) st := fun st fr => by simp only [fIx, esg, okP]
  have j2 : ∀ st fr, fIx (.v (.lst true [.tup [.int 0, .int 1], .tup [.int (-1), .int 3]]) fr) (.v (.int ((v.fdiv 400).fmod 2)) false) st = .ok (.v (fr2 pz) false) st := fun st fr => by simp only [fIx, epz, okP]
  have pre : d__law_spoilt (slots0 8 [.ref 0, .v (.int v) false]) (stR rs) = d__law_spoilt_t3 [some (.ref 0), some (.v (.int v) false), some (.v (.int (a : Int)) false), some (.v (.int (v.fmod 9)) false), some (.v (fr2 sm) false), none, none, none] (stR rs) := by
    simp [d__law_spoilt, slots0, A.strip, dSeq, dSet, dBin, dI2, dVar, dC, dNeg, dLst, dCons, dNil, newL, toPs, fInts, dB1, fLen, dCall, dArg, callP, PRes.res, Res.then, Res.flow, el, ea, nn, gs, fAdd, Nat.ble, j1]
  have fin : ∀ st', (∃ S', d__law_spoilt_t3 [some (.ref 0), some (.v (.int v) false), some (.v (.int (a : Int)) false), some (.v (.int (v.fmod 9)) false), some (.v (fr2 sm) false), none, none, none] (stR rs) = .nx S' st') → i__law_spoilt [.ref 0, .v (.int v) false] (stR rs) = .ok (.v .non false) st' := fun st' ⟨S', e⟩ => by
    unfold i__law_spoilt runI
    rw [pre, e]
  clear pre
  have eqI : ∀ (i j : Int) (st : Store), fEq false (.v (.int i) false) (.v (.int j) false) st = .ok (.v (.bl (decide (i = j))) false) st := fun i j st => by
    by_cases q : i = j <;> simp [q, fEq, A.dataOf, toD, toDs, SeqAt.shaped, PyData.canLay0, PyData.canLayAll0, PyData.depthAll, PyData.depth, PyData.eqv, PyData.eqvAll, runP, runI, slots0, A.strip, dRet, dRetN, Res.flow, Res.then, dBin, dI2, dVar, dC, fIx, okP, okV, freeze, L2.atI, L2.ixN, dSeq, dIf, dSet, dExpr, dB, dArg, dCons, dNil, callP, toPs, toP, PRes.res, dNext, dB1, fLen, lenOf, fAbs, fAdd, dAnd, dOr, dNot, dAndV, dOrV, dNotV, dBV, dIfE, dTup, dLst, newL, dAsg, gN, gT, gU, unP, gC, gE, dForE, forR, lstAt, turnsAt, dCompE, compR, isLst, dMeth, dMeth0, putL, itemsOf, fAppend, fExtend, fClear, fPop, fPopAt, fInsert, fReverse, fPut, dPut, fInts, dAug, dNeg, dPar, fInt, fMax2, fMin2, Nat.ble, dBreak, dCont, dComp, compL, noEx, wipeS, dYes, dRange1, dRange2, asI1, asI2, bnd, dItem, itemsV, dSlice, dPart, dNoPart, fSlice, A.cut, HT.sIx, A.listOf,  noBor, noBors, views, view, viewN, optAll]
  have lz : ∀ st S, dLst false (dCons (dTup (dCons (dC (.int (0))) (dCons (dC (.int (1))) (dNil)))) (dCons (dTup (dCons (dNeg (dC (.int (1)))) (dCons (dC (.int (3))) (dNil)))) (dNil))) S st = .ok (.v (.lst true [.tup [.int 0, .int 1], .tup [.int (-1), .int 3]]) true) st := fun st S => by
    simp [dLst, dCons, dNil, dTup, dC, dNeg, fInts, Res.then, toPs, newL, Nat.ble]
  have ways : v.fmod 9 = 0 ∨ v.fmod 9 = 1 ∨ v.fmod 9 = 2 ∨ v.fmod 9 = 3 ∨ v.fmod 9 = 4 ∨ v.fmod 9 = 5 ∨ v.fmod 9 = 6 ∨ v.fmod 9 = 7 ∨ v.fmod 9 = 8 := by omega
  have ixn1 : L2.ixN 5 1 = some 1 := rfl
  have ixn2 : L2.ixN 5 2 = some 2 := rfl
  have ixn3 : L2.ixN 5 3 = some 3 := rfl
  have ixn4 : L2.ixN 5 4 = some 4 := rfl
  rcases ways with w | w | w | w | w | w | w | w | w
  · refine ⟨stR rs, _, rs, fin _ ?_, hst_made _, fun r hr => (h r hr).ok, hn⟩
    · apply Exists.intro
      simp only [d__law_spoilt_t3, w, dIf, dOr, dB, dNext, dBin, dVar, dC, eqI, Res.then, Res.flow, List.getElem?_cons_succ, List.getElem?_cons_zero]
      rfl
  · have p1 := put_at ha (j := 1) (i := 1) (f := false) (g := false) (p := fr2 (plusF rs[a].part sm)) (r' := { rs[a] with part := plusF rs[a].part sm }) rfl rfl
    refine spoilt_set h hn (a := a) (r' := { rs[a] with part := plusF rs[a].part sm }) ⟨pp r.part, r.ok.had, r.ok.left, r.ok.miss⟩ (fin _ ?_)
    · apply Exists.intro
      simp [d__law_spoilt_t3, w, dIf, dOr, dB, dNext, dBin, dVar, dC, eqI, Res.then, Res.flow, dPut, dCall, dArg, dCons, dNil, callP, toPs, PRes.res, i0, e1, gp r.part, p1]
      rfl
  · have p1 := put_at ha (j := 1) (i := 1) (f := false) (g := false) (p := fr2 pz) (r' := { rs[a] with part := pz }) rfl rfl
    refine spoilt_set h hn (a := a) (r' := { rs[a] with part := pz }) ⟨hpz.mono (by decide), r.ok.had, r.ok.left, r.ok.miss⟩ (fin _ ?_)
    · apply Exists.intro
      simp [d__law_spoilt_t3, w, dIf, dOr, dB, dNext, dBin, dI2, dVar, dC, eqI, Res.then, Res.flow, dPut, lz, i0, j2, p1]
      rfl
  · -- a row less
    have hh := hst_made rs
    have w0 := lst0' rs
    have lr : (refs rs.length).length = rs.length := by simp [refs]
    have hp : (refs rs.length)[a]? = some (.ref (a + 1)) := by simp [refs, ha]
    have hx : L2.ixN rs.length (a : Int) = some a := by simp [L2.ixN, ha]
    have hb : bnd (a : Int) = true := by simp [bnd]; omega
    have hi : isLst (stR rs) (.ref 0) = true := by simp [isLst, w0]
    refine ⟨(stR rs).set 0 (.lst ((refs rs.length).eraseIdx a)), ((List.range rs.length).map (· + 1)).eraseIdx a, rs.eraseIdx a, fin _ ?_, ⟨?_, ?_⟩, fun r hr => (h r (List.mem_of_mem_eraseIdx hr)).ok, ?_⟩
    · apply Exists.intro
      rw [w]
      have tst : ∀ j : Int, dB (dBin (fEq false) (dVar 3) (dC (.int j))) [some (.ref 0), some (.v (.int v) false), some (.v (.int (a : Int)) false), some (.v (.int 3) false), some (.v (fr2 sm) false), none, none, none] (stR rs) = .ok (decide ((3 : Int) = j)) (stR rs) := fun j => by
        simp only [dB, dBin, dVar, dC, eqI, Res.then, List.getElem?_cons_succ, List.getElem?_cons_zero]
      unfold d__law_spoilt_t3
      exact (dIf_f (tst 1)).trans ((dIf_f (tst 2)).trans ((dIf_t (tst 3)).trans (dExpr_ok (dMeth_ok rfl hi rfl (pop_at w0 hb (by rw [lr]; exact hx) hp)))))
    · rw [map_erase, List.map_map]
      rfl
    · refine pairedErase a ?_
      refine pairedMk (by simp) fun i p q => ?_
      have := lstAt_row rs i q
      simp only [List.getElem_map, List.getElem_range]
      unfold lstAt at this ⊢
      rw [List.getElem?_set_ne (by omega)]
      exact this
    · rw [List.length_eraseIdx]; split <;> omega
  · have p1 := put_at ha (j := 2) (i := 2) (f := false) (g := false) (p := .int (rs[a].had + 1)) (r' := { rs[a] with had := rs[a].had + 1 }) rfl rfl
    refine spoilt_set h hn (a := a) (r' := { rs[a] with had := rs[a].had + 1 }) ⟨r.ok.part, (r.had.add (.lit (by decide +kernel))).mono (by decide), r.ok.left, r.ok.miss⟩ (fin _ ?_)
    · apply Exists.intro
      simp [d__law_spoilt_t3, w, dIf, dOr, dB, dNext, dBin, dI2, dVar, dC, eqI, Res.then, Res.flow, dPut, fAdd, i0, e2, p1]
      rfl
  · have p1 := put_at ha (j := 3) (i := 3) (f := false) (g := false) (p := fr2 (plusF rs[a].left sm)) (r' := { rs[a] with left := plusF rs[a].left sm }) rfl rfl
    refine spoilt_set h hn (a := a) (r' := { rs[a] with left := plusF rs[a].left sm }) ⟨r.ok.part, r.ok.had, pp r.left, r.ok.miss⟩ (fin _ ?_)
    · apply Exists.intro
      simp [d__law_spoilt_t3, w, dIf, dOr, dB, dNext, dBin, dI2, dVar, dC, eqI, Res.then, Res.flow, dPut, dCall, dArg, dCons, dNil, callP, toPs, PRes.res, i0, e3, gp r.left, p1]
      rfl
  · have p1 := put_at ha (j := 4) (i := 4) (f := false) (g := false) (p := fr2 (plusF rs[a].miss sm)) (r' := { rs[a] with miss := plusF rs[a].miss sm }) rfl rfl
    refine spoilt_set h hn (a := a) (r' := { rs[a] with miss := plusF rs[a].miss sm }) ⟨r.ok.part, r.ok.had, r.ok.left, pp r.miss⟩ (fin _ ?_)
    · apply Exists.intro
      simp [d__law_spoilt_t3, w, dIf, dOr, dB, dNext, dBin, dI2, dVar, dC, eqI, Res.then, Res.flow, dPut, dCall, dArg, dCons, dNil, callP, toPs, PRes.res, i0, e4, gp r.miss, p1]
      rfl
  · have q := r.left.pos
    obtain ⟨dn, hdn⟩ : ∃ dn : Int, dn = rs[a].left.1.fdiv rs[a].left.2 + 2 := ⟨_, rfl⟩
    have sd : Sz 200 dn := down_ok r.left hdn
    have p1 := put_at ha (j := 2) (i := 2) (f := false) (g := false) (p := .int (rs[a].had + dn)) (r' := { rs[a] with had := rs[a].had + dn }) rfl rfl
    have ha' : a < (rs.set a { rs[a] with had := rs[a].had + dn }).length := by rw [List.length_set]; exact ha
    have eg : (rs.set a { rs[a] with had := rs[a].had + dn })[a] = { rs[a] with had := rs[a].had + dn } := List.getElem_set_self ha'
    have i0' := ixr ha'
    have gp2 : g__law_plus [fr2 rs[a].left, .tup [.int (0 - dn), .int 1]] = .ok (fr2 (plusF rs[a].left (0 - dn, 1))) false := by rw [← g__law_plus_eq]; exact e_lplus r.left (neg_ok sd) (by decide)
    have p2 := put_at ha' (j := 3) (i := 3) (f := false) (g := false) (p := fr2 (plusF rs[a].left (0 - dn, 1))) (r' := { rs[a] with had := rs[a].had + dn, left := plusF rs[a].left (0 - dn, 1) }) rfl (by rw [eg]; simp [rowPs])
    rw [List.set_set] at p2
    refine spoilt_set h hn (a := a) (r' := { rs[a] with had := rs[a].had + dn, left := plusF rs[a].left (0 - dn, 1) }) ⟨r.ok.part, ((r.had.mono (by decide)).add sd).mono (by decide), (r.left.plus (neg_ok sd)).mono (by decide), r.ok.miss⟩ (fin _ ?_)
    · apply Exists.intro
      have nz2 : ¬ rs[a].left.2 = 0 := by omega
      simp only [un2, Int.zero_sub] at gp2 p1 p2 e3 ⊢
      simp [d__law_spoilt_t3, w, dIf, dOr, dB, dNext, dBin, dI2, dVar, dC, eqI, Res.then, Res.flow, dAsg, gU, unP, gC, gN, gE, dSeq, dSet, dPut, fAdd, dTup, dCall, dArg, dCons, dNil, callP, toPs, PRes.res, i0, e2, e3, nz2, ← hdn, p1, i0', gp2, p2, Nat.ble]
      rfl
  · have q := r.miss.pos
    obtain ⟨dn, hdn⟩ : ∃ dn : Int, dn = rs[a].miss.1.fdiv rs[a].miss.2 + 2 := ⟨_, rfl⟩
    have sd : Sz 200 dn := down_ok r.miss hdn
    have p1 := put_at ha (j := 2) (i := 2) (f := false) (g := false) (p := .int (rs[a].had + dn)) (r' := { rs[a] with had := rs[a].had + dn }) rfl rfl
    have ha' : a < (rs.set a { rs[a] with had := rs[a].had + dn }).length := by rw [List.length_set]; exact ha
    have eg : (rs.set a { rs[a] with had := rs[a].had + dn })[a] = { rs[a] with had := rs[a].had + dn } := List.getElem_set_self ha'
    have i0' := ixr ha'
    have gp2 : g__law_plus [fr2 rs[a].miss, .tup [.int (0 - dn), .int 1]] = .ok (fr2 (plusF rs[a].miss (0 - dn, 1))) false := by rw [← g__law_plus_eq]; exact e_lplus r.miss (neg_ok sd) (by decide)
    have p2 := put_at ha' (j := 4) (i := 4) (f := false) (g := false) (p := fr2 (plusF rs[a].miss (0 - dn, 1))) (r' := { rs[a] with had := rs[a].had + dn, miss := plusF rs[a].miss (0 - dn, 1) }) rfl (by rw [eg]; simp [rowPs])
    rw [List.set_set] at p2
    refine spoilt_set h hn (a := a) (r' := { rs[a] with had := rs[a].had + dn, miss := plusF rs[a].miss (0 - dn, 1) }) ⟨r.ok.part, ((r.had.mono (by decide)).add sd).mono (by decide), r.ok.left, (r.miss.plus (neg_ok sd)).mono (by decide)⟩ (fin _ ?_)
    · apply Exists.intro
      have nz2 : ¬ rs[a].miss.2 = 0 := by omega
      simp only [un2, Int.zero_sub] at gp2 p1 p2 e4 ⊢
      simp [d__law_spoilt_t3, w, dIf, dOr, dB, dNext, dBin, dI2, dVar, dC, eqI, Res.then, Res.flow, dAsg, gU, unP, gC, gN, gE, dSeq, dSet, dPut, fAdd, dTup, dCall, dArg, dCons, dNil, callP, toPs, PRes.res, i0, e2, e4, nz2, ← hdn, p1, i0', gp2, p2, Nat.ble]
      rfl
theorem many_ok (ns : List Int) (hl : ns.length ≤ 63) {cv : Nat → Int} (hc : ∀ k : Nat, k ≤ 100 → f__law_cell_at [.scr ns, .int k] = .ok (.int (cv k)) false ∧ 0 ≤ cv k ∧ cv k < 2147483629) :
    ∃ m : Int, f__law_many [.scr ns, .int 3, .int 20] = .ok (.int m) false ∧ m ≤ 20 := by
  have e : f__law_cell_at [.scr ns, .int 2] = .ok (.int (cv 2)) false := (hc 2 (by decide)).1
  have eq1 : ∀ (i j : Int), (if j < i then j else i) ≤ i := fun i j => by split <;> omega
  refine ⟨_, by simp [f__law_many, d__law_many, e, runP, runI, slots0, A.strip, dRet, dRetN, Res.flow, Res.then, dBin, dI2, dVar, dC, fIx, okP, okV, freeze, L2.atI, L2.ixN, dSeq, dIf, dSet, dExpr, dB, dArg, dCons, dNil, callP, toPs, toP, PRes.res, dNext, dB1, fLen, lenOf, fAbs, fAdd, dAnd, dOr, dNot, dAndV, dOrV, dNotV, dBV, dIfE, dTup, dLst, newL, dAsg, gN, gT, gU, unP, gC, gE, dForE, forR, lstAt, turnsAt, dCompE, compR, isLst, dMeth, dMeth0, putL, itemsOf, fAppend, fExtend, fClear, fPop, fPopAt, fInsert, fReverse, fPut, dPut, fInts, dAug, dNeg, dPar, fInt, fMax2, fMin2, Nat.ble, dBreak, dCont, dComp, compL, noEx, wipeS, dYes, dRange1, dRange2, asI1, asI2, bnd, dItem, itemsV, dSlice, dPart, dNoPart, fSlice, A.cut, HT.sIx, A.listOf,  noBor, noBors, views, view, viewN, optAll]; rfl, ?_⟩
  split <;> omega

theorem hF_L : ∀ r, unP (.v (rowL r) false) = some (rowPs r) := fun _ => rfl
theorem hF_T : ∀ r, unP (.v (rowT r) false) = some (rowPs r) := fun _ => rfl
theorem optAll_map {α : Type} (f : α → Option PV) (g : α → PV) : ∀ l : List α, (∀ x ∈ l, f x = some (g x)) → optAll (l.map f) = some (l.map g)
  | [], _ => rfl
  | x :: l, h => by
    rw [List.map_cons, h x List.mem_cons_self]
    show (optAll (l.map f)).map (g x :: ·) = _
    rw [optAll_map f g l fun y hy => h y (List.mem_cons_of_mem _ hy)]
    rfl
theorem optAll_pair {α β : Type} {P : α → β → Prop} (f : α → Option PV) (g : β → PV) (h : ∀ a b, P a b → f a = some (g b)) : ∀ {l : List α} {r : List β}, Paired P l r → optAll (l.map f) = some (r.map g)
  | _, _, .nil => rfl
  | _, _, .cons a t => by
    rw [List.map_cons, h _ _ a]
    show (optAll (_)).map (_ :: ·) = _
    rw [optAll_pair f g h t]
    rfl
theorem view_row {st : Store} {i : Nat} {r : Rw} (h : lstAt st i = some ((rowPs r).map (AV.v · false))) (k : Nat) : viewN false st (k + 1) (.ref i) = some (rowL r) := by
  unfold lstAt at h
  split at h
  · rename_i xs hx
    cases h
    have e : optAll (((rowPs r).map (AV.v · false)).map (viewN false st k)) = some ((rowPs r)) := by
      rw [List.map_map]
      have := optAll_map ((viewN false st k) ∘ (AV.v · false)) id (rowPs r) (fun x _ => by cases k <;> rfl)
      rw [this, List.map_id]
    simp only [viewN, hx, e]
    rfl
  · cases h
theorem view_rows {st : Store} {is : List Nat} {rs : List Rw} (h : Hst st is rs) : views false st [.ref 0] = some [.lst false (rs.map rowL)] := by
  have e : optAll ((is.map AV.ref).map (viewN false st 11)) = some (rs.map rowL) := by
    rw [List.map_map]
    exact optAll_pair (P := fun i r => lstAt st i = some ((rowPs r).map (AV.v · false))) _ rowL (fun i r q => view_row q 10) h.row
  have o := h.out
  unfold lstAt at o
  split at o
  · rename_i xs hx
    cases o
    have v0 : viewN false st 12 (.ref 0) = some (.lst false (rs.map rowL)) := by
      rw [viewN]
      simp only [hx, e]
      rfl
    show optAll [viewN false st 12 (.ref 0)] = _
    rw [v0]
    rfl
  · cases o
theorem worth_ref {st : Store} {is : List Nat} {rs : List Rw} (h : Hst st is rs) (hr : ∀ r ∈ rs, RwOk r) (hn : rs.length ≤ 20) : ∃ fr, callP f__law_worth [.ref 0] st = .ok (.v (fr2 (worthF rs (0, 1))) fr) st := by
  obtain ⟨fr, e⟩ := e_worth (t := false) hF_L hr hn
  refine ⟨fr, ?_⟩
  have z : toPs [.ref 0] = none := rfl
  unfold callP
  rw [z]
  simp only [view_rows h, e]
  rfl
/-! told rows compared -/
def rowD (r : Rw) : PyData := .tuple [.tuple [.int r.k, .int r.c], .tuple [.int r.part.1, .int r.part.2], .int r.had, .tuple [.int r.left.1, .int r.left.2], .tuple [.int r.miss.1, .int r.miss.2]]
theorem toDs_rows : ∀ rs : List Rw, toDs (rs.map rowT) = some (rs.map rowD)
  | [] => by simp [toDs]
  | r :: rs => by
    have h : toD (rowT r) = some (rowD r) := by simp [rowT, rowPs, fr2, toD, toDs, rowD]
    rw [List.map_cons, List.map_cons, toDs, h, toDs_rows rs]
theorem lay_rows : ∀ rs : List Rw, PyData.canLayAll0 (rs.map rowD) = true ∧ PyData.depthAll (rs.map rowD) ≤ 3
  | [] => by simp [PyData.canLayAll0, PyData.depthAll]
  | r :: rs => by
    obtain ⟨a, b⟩ := lay_rows rs
    have h1 : PyData.canLay0 (rowD r) = true := by simp [rowD, PyData.canLay0, PyData.canLayAll0]
    have h2 : PyData.depth (rowD r) ≤ 3 := by simp [rowD, PyData.depth, PyData.depthAll]
    rw [List.map_cons]
    exact ⟨by rw [PyData.canLayAll0, h1, a]; rfl, by rw [PyData.depthAll]; omega⟩
theorem ne_told {rs : List Rw} {t u f g : Bool} {st : Store} : fEq true (.v (.lst t (rs.map rowT)) f) (.v (.lst u (rs.map rowT)) g) st = .ok (.v (.bl false) false) st := by
  obtain ⟨a, b⟩ := lay_rows rs
  have d : ∀ t f, A.dataOf st (.v (.lst t (rs.map rowT)) f) = some (.list (rs.map rowD)) := fun t f => by
    show toD (.lst t (rs.map rowT)) = _
    rw [toD, toDs_rows]
    rfl
  have l : PyData.canLay0 (.list (rs.map rowD)) = true := by rw [PyData.canLay0]; exact a
  have sh : SeqAt.shaped (.list (rs.map rowD)) = true := by
    unfold SeqAt.shaped
    rw [l, PyData.depth]
    simp
    omega
  unfold fEq
  rw [d, d]
  simp only [sh, Bool.and_true, cond_true, SeqAt.eqv_refl _ l]
  rfl

/-! the law -/
theorem adds_T {t : Bool} {rs : List Rw} (hr : ∀ r ∈ rs, RwOk r) (hn : rs.length ≤ 20) (w : Int × Int) : f_adds_up [fr2 w, .lst t (rs.map rowT)] = .ok (.bl (rightF rs w)) false := e_adds hF_T hr hn w
theorem plus_ne {p x : Int × Int} (hp : 0 < p.2) (hx : 0 < x.2) (h0 : x.1 ≠ 0) : ¬ p = plusF p x := fun e => by
  have l := lowF_low (p.1 * x.2 + x.1 * p.2) (p.2 * x.2) (Int.ne_of_gt (Int.mul_pos hp hx))
  have q := l.eq
  have e1 : (lowF (p.1 * x.2 + x.1 * p.2) (p.2 * x.2)).1 = p.1 := (congrArg Prod.fst e).symm
  have e2 : (lowF (p.1 * x.2 + x.1 * p.2) (p.2 * x.2)).2 = p.2 := (congrArg Prod.snd e).symm
  rw [e1, e2] at q
  have z : x.1 * (p.2 * p.2) = 0 := by grind
  rcases Int.mul_eq_zero.mp z with z | z
  · exact h0 z
  · rcases Int.mul_eq_zero.mp z with z | z <;> omega
theorem lowF_nz {t b : Int} (ht : t ≠ 0) (hb : 0 < b) : (lowF t b).1 ≠ 0 := fun z => by
  have l := lowF_low t b (by omega)
  have e := l.eq
  have p := l.pos
  rw [z, Int.zero_mul] at e
  rcases Int.mul_eq_zero.mp e.symm with q | q
  · exact ht q
  · omega

theorem dCallI_ok {k : Nat} {den : IDen} {da : DA} {S : Slots} {st st1 st2 : Store} {xs : List AV} {y : AV} (h1 : da S st = .ok xs st1) (h2 : Nat.beq xs.length k = true) (h3 : den xs st1 = .ok y st2) : dCallI k den da S st = .ok y st2 := by
  show ((da S st).then fun xs st1 => bif Nat.beq xs.length k then den xs st1 else .bad) = _
  rw [h1]
  show (bif Nat.beq xs.length k then den xs st1 else .bad) = _
  rw [h2]
  exact h3
theorem dCall_ok {k : Nat} {den : PDen} {da : DA} {S : Slots} {st st1 : Store} {xs : List AV} {y : AV} (h1 : da S st = .ok xs st1) (h2 : Nat.beq xs.length k = true) (h3 : callP den xs st1 = .ok y st1) : dCall k den da S st = .ok y st1 := dCallI_ok (den := callP den) h1 h2 h3
theorem compE_ref {vs : List Nat} {di : DE} {tg : DG} {t : DT} {e : DE} {S : Slots} {st st1 st2 : Store} {n : Nat} {ys : List AV} {ps : List PV} (h1 : di S st = .ok (.ref n) st1) (h2 : compR n tg t e (wipeS S vs) (turnsAt st1 n) 0 st1 = .ok ys st2) (h3 : ys.length ≤ 1000000) (h4 : toPs ys = some ps) : dCompE false vs di tg t e S st = .ok (.v (.lst true ps) true) st2 := by
  have h5 : Nat.ble ys.length 1000000 = true := Nat.ble_eq.mpr h3
  unfold dCompE
  rw [h1]
  show ((noEx (compR n tg t e (wipeS S vs) (turnsAt st1 n) 0 st1)).then _) = _
  rw [h2]
  show (bif Nat.ble ys.length 1000000 then newL false ys st2 else .bad) = _
  rw [h5]
  show newL false ys st2 = _
  unfold newL
  rw [h4]
  rfl
theorem toPs_T : ∀ rs : List Rw, toPs (rs.map fun r => .v (rowT r) false) = some (rs.map rowT)
  | [] => rfl
  | r :: rs => by rw [List.map_cons, toPs, toPs_T rs]; rfl
theorem told_at {st : Store} {is : List Nat} {rs : List Rw} (h : Hst st is rs) (hn : rs.length ≤ 20) {S : Slots} (hl : S.length = 11) (h2 : dVar 2 S st = .ok (.ref 0) st) : dCompE false [10] (dVar 2) (gN 10) dYes (dB1 fTuple (dCons (dVar 10) (dNil))) S st = .ok (.v (.lst true (rs.map rowT)) true) st := by
  have tu : turnsAt st 0 = is.length + 1 := by
    unfold turnsAt
    rw [h.out]
    simp
  have c := comp_rows h (wipeS S [10]) (by rw [wipeS_len]; exact hl) is.length 0 (by omega)
  rw [← tu, List.drop_zero] at c
  exact compE_ref h2 c (by simp; omega) (toPs_T rs)
theorem toPs_pvs (ps : List PV) : toPs (ps.map (AV.v · false)) = some ps := by
  induction ps with
  | nil => rfl
  | cons p ps ih => rw [List.map_cons, toPs, ih]; rfl
/-- the first half -/
theorem half {ns : List Int} {cv : Nat → Int} (hc : ∀ k : Nat, k ≤ 100 → f__law_cell_at [.scr ns, .int k] = .ok (.int (cv k)) false ∧ 0 ≤ cv k ∧ cv k < 2147483629) {rs : List Rw} (hs : ∀ r ∈ rs, RwS r) (h1 : 1 ≤ rs.length) (hn : rs.length ≤ 20) (hg : okR rs = true) (hsh : shF rs (0, 1) = (1, 1)) (x1 : Option AV) :
    ∃ st' is' rs' fw x5, Hst st' is' rs' ∧ (∀ r ∈ rs', RwOk r) ∧ rs'.length ≤ 20 ∧ d_law_t2 [some (.v (.scr ns) false), x1, some (.ref 0), none, none, none, none, none, none, none, none] (stR rs) =
      d_law_t8 [some (.v (.scr ns) false), x1, some (.ref 0), some (.v (fr2 (worthF rs (0, 1))) fw), some (.v (.lst true (rs.map rowT)) true), x5, none, none, none, none, none] st' := by
  have hr : ∀ r ∈ rs, RwOk r := fun r m => (hs r m).ok
  obtain ⟨fw, e3⟩ := worth_ref (hst_made rs) hr hn
  have ec0 : f__law_cell_at [.scr ns, .int 0] = .ok (.int (cv 0)) false := (hc 0 (by decide)).1
  have ec1 : f__law_cell_at [.scr ns, .int 1] = .ok (.int (cv 1)) false := (hc 1 (by decide)).1
  obtain ⟨st', is', rs', es, hh, ho, hl⟩ := e_spoilt hs h1 hn (cv 0)
  refine ⟨st', is', rs', fw, some (.v (.int (cv 1)) false), hh, ho, hl, ?_⟩
  have q3 : dSet 3 (dCall 1 f__law_worth (dCons (dVar 2) (dNil))) [some (.v (.scr ns) false), x1, some (.ref 0), none, none, none, none, none, none, none, none] (stR rs) = .nx [some (.v (.scr ns) false), x1, some (.ref 0), some (.v (fr2 (worthF rs (0, 1))) fw), none, none, none, none, none, none, none] (stR rs) := dSet_ok (dCall_ok (xs := [.ref 0]) rfl rfl e3)
  have q4 := dSet_ok (i := 4) (told_at (hst_made rs) hn (S := [some (.v (.scr ns) false), x1, some (.ref 0), some (.v (fr2 (worthF rs (0, 1))) fw), none, none, none, none, none, none, none]) rfl rfl)
  have a1 := adds_T (t := true) hr hn (worthF rs (0, 1))
  have r1 : rightF rs (worthF rs (0, 1)) = true := by simp [rightF, hg, hsh]
  rw [r1] at a1
  have a2 : f_adds_up [.tup [.int 0, .int 1], .lst true []] = .ok (.bl false) false := adds_T (t := true) (rs := []) (fun r m => absurd m (List.not_mem_nil)) (by decide) (0, 1)
  have a3 : f_adds_up [.tup [.int 1, .int 1], .lst true []] = .ok (.bl false) false := adds_T (t := true) (rs := []) (fun r m => absurd m (List.not_mem_nil)) (by decide) (1, 1)
  have wz : Pz 90000 (worthF rs (0, 1)) := (worthF_ok hr zero_ok).mono (by omega)
  obtain ⟨z0, z1⟩ := fmod_pos (i := (cv 1).fdiv 2) (j := 1000000000) (by decide)
  obtain ⟨u0, u1⟩ := fmod_pos (i := cv 1) (j := 2) (by decide)
  obtain ⟨sg, esg, hsg⟩ : ∃ sg : Int, L2.atI [PV.int 1, .int (-1)] ((cv 1).fmod 2) = some (.int sg) ∧ sg.natAbs = 1 := by
    rcases (by omega : (cv 1).fmod 2 = 0 ∨ (cv 1).fmod 2 = 1) with z | z <;> rw [z]
    · exact ⟨1, rfl, rfl⟩
    · exact ⟨-1, rfl, rfl⟩
  have j1 : ∀ st fr, fIx (.v (.lst true [.int 1, .int (-1)]) fr) (.v (.int ((cv 1).fmod 2)) false) st = .ok (.v (.int sg) false) st := fun st fr => by simp only [fIx, esg, okP]
  have gs : g__law_share [.int sg, .int (1 + ((cv 1).fdiv 2).fmod 1000000000)] = .ok (fr2 (lowF sg (1 + ((cv 1).fdiv 2).fmod 1000000000))) false := by rw [← g__law_share_eq]; exact m__law_share _ _ (by omega)
  have ps : Pz 100 (lowF sg (1 + ((cv 1).fdiv 2).fmod 1000000000)) := Pz.low (.of_nat 1 (by omega) (by decide +kernel)) (.of_nat 1000000001 (by omega) (by decide +kernel)) (by omega)
  have pn : (lowF sg (1 + ((cv 1).fdiv 2).fmod 1000000000)).1 ≠ 0 := lowF_nz (by omega) (by omega)
  generalize lowF sg (1 + ((cv 1).fdiv 2).fmod 1000000000) = sm at *
  have g6 : g__law_plus [fr2 (worthF rs (0, 1)), fr2 sm] = .ok (fr2 (plusF (worthF rs (0, 1)) sm)) false := by rw [← g__law_plus_eq]; exact e_lplus wz ps (by decide)
  have a6 := adds_T (t := true) hr hn (plusF (worthF rs (0, 1)) sm)
  have r6 : rightF rs (plusF (worthF rs (0, 1)) sm) = false := by
    have := plus_ne wz.pos ps.pos pn
    simp [rightF, hg, hsh, this]
  rw [r6] at a6
  have cq : callP f__law_cell_at [.v (.scr ns) false, .v (.int 0) false] (stR rs) = .ok (.v (.int (cv 0)) false) (stR rs) := by simp [callP, toPs, ec0, PRes.res]
  have q7 : dExpr (dCallI 2 i__law_spoilt (dCons (dVar 2) (dCons (dCall 2 f__law_cell_at (dCons (dVar 0) (dCons (dC (.int (0))) (dNil)))) (dNil)))) [some (.v (.scr ns) false), x1, some (.ref 0), some (.v (fr2 (worthF rs (0, 1))) fw), some (.v (.lst true (rs.map rowT)) true), some (.v (.int (cv 1)) false), none, none, none, none, none] (stR rs) = .nx [some (.v (.scr ns) false), x1, some (.ref 0), some (.v (fr2 (worthF rs (0, 1))) fw), some (.v (.lst true (rs.map rowT)) true), some (.v (.int (cv 1)) false), none, none, none, none, none] st' := by
    refine dExpr_ok (dCallI_ok (xs := [.ref 0, .v (.int (cv 0)) false]) ?_ rfl es)
    simp [dCons, dNil, dVar, dC, Res.then, dCall, dArg, cq, Nat.beq]
  have q5 : ∀ a b, dSeq (dIf (dOr (dNot (dB (dCall 2 f_adds_up (dCons (dVar 3) (dCons (dVar 4) (dNil)))))) (dOr (dB (dCall 2 f_adds_up (dCons (dTup (dCons (dC (.int (0))) (dCons (dC (.int (1))) (dNil)))) (dCons (dLst false (dNil)) (dNil))))) (dB (dCall 2 f_adds_up (dCons (dTup (dCons (dC (.int (1))) (dCons (dC (.int (1))) (dNil)))) (dCons (dLst false (dNil)) (dNil))))))) a dNext) b
      [some (.v (.scr ns) false), x1, some (.ref 0), some (.v (fr2 (worthF rs (0, 1))) fw), some (.v (.lst true (rs.map rowT)) true), none, none, none, none, none, none] (stR rs) = b [some (.v (.scr ns) false), x1, some (.ref 0), some (.v (fr2 (worthF rs (0, 1))) fw), some (.v (.lst true (rs.map rowT)) true), none, none, none, none, none, none] (stR rs) := fun a b => by
    simp [dSeq, dIf, dOr, dNot, dB, dNext, dCall, dArg, dCons, dNil, dVar, dC, dTup, dLst, newL, toPs, Res.then, Res.flow, callP, PRes.res, a1, a2, a3, Nat.ble, Nat.beq]
  have q6 : dSet 5 (dCall 2 f__law_cell_at (dCons (dVar 0) (dCons (dC (.int (1))) (dNil)))) [some (.v (.scr ns) false), x1, some (.ref 0), some (.v (fr2 (worthF rs (0, 1))) fw), some (.v (.lst true (rs.map rowT)) true), none, none, none, none, none, none] (stR rs) = .nx [some (.v (.scr ns) false), x1, some (.ref 0), some (.v (fr2 (worthF rs (0, 1))) fw), some (.v (.lst true (rs.map rowT)) true), some (.v (.int (cv 1)) false), none, none, none, none, none] (stR rs) := by
    refine dSet_ok ?_
    simp [dCons, dNil, dVar, dC, Res.then, dCall, dArg, callP, toPs, ec1, PRes.res, Nat.beq]
  have q8 : ∀ a b, dSeq (dIf (dB (dCall 2 f_adds_up (dCons (dCall 2 g__law_plus (dCons (dVar 3) (dCons (dCall 2 g__law_share (dCons (dBin fIx (dLst false (dCons (dC (.int (1))) (dCons (dNeg (dC (.int (1)))) (dNil)))) (dBin fMod (dVar 5) (dC (.int (2))))) (dCons (dBin (fAdd false) (dC (.int (1))) (dBin fMod (dBin fDiv (dVar 5) (dC (.int (2)))) (dBin fPow (dC (.int (10))) (dC (.int (9)))))) (dNil)))) (dNil)))) (dCons (dVar 4) (dNil))))) a dNext) b
      [some (.v (.scr ns) false), x1, some (.ref 0), some (.v (fr2 (worthF rs (0, 1))) fw), some (.v (.lst true (rs.map rowT)) true), some (.v (.int (cv 1)) false), none, none, none, none, none] (stR rs) = b [some (.v (.scr ns) false), x1, some (.ref 0), some (.v (fr2 (worthF rs (0, 1))) fw), some (.v (.lst true (rs.map rowT)) true), some (.v (.int (cv 1)) false), none, none, none, none, none] (stR rs) := fun a b => by
    simp [dSeq, dIf, dB, dNext, dCall, dArg, dCons, dNil, dVar, dC, dNeg, fInts, dLst, newL, toPs, dBin, dI2, fAdd, Res.then, Res.flow, callP, PRes.res, j1, gs, g6, a6, Nat.ble, Nat.beq]
  unfold d_law_t2
  exact (dSeq_nx q3).trans ((dSeq_nx q4).trans ((q5 _ _).trans ((dSeq_nx q6).trans ((q8 _ _).trans (dSeq_nx q7)))))
/-- the second half -/
theorem second {ns : List Int} {rs rs' : List Rw} {st' : Store} {is' : List Nat} (hr : ∀ r ∈ rs, RwOk r) (hn : rs.length ≤ 20) (hg : okR rs = true) (hsh : shF rs (0, 1) = (1, 1)) (hh : Hst st' is' rs') (ho : ∀ r ∈ rs', RwOk r) (hl : rs'.length ≤ 20) (x0 x1 x5 : Option AV) (fw : Bool) :
    ∃ fr st2, d_law_t8 [x0, x1, some (.ref 0), some (.v (fr2 (worthF rs (0, 1))) fw), some (.v (.lst true (rs.map rowT)) true), x5, none, none, none, none, none] st' = .rt (.v (.bl true) fr) st2 := by
  have q6 := dSet_ok (i := 6) (told_at hh hl (S := [x0, x1, some (.ref 0), some (.v (fr2 (worthF rs (0, 1))) fw), some (.v (.lst true (rs.map rowT)) true), x5, none, none, none, none, none]) rfl rfl)
  have q7 : ∀ st : Store, fList false [.v (.lst true (rs'.map rowT)) true] st = .ok (.v (.lst true (rs'.map rowT)) true) st := fun st => by
    show newL false ((rs'.map rowT).map (AV.v · false)) st = _
    unfold newL
    rw [toPs_pvs]
    rfl
  have a1 := adds_T (t := true) hr hn (worthF rs (0, 1))
  have r1 : rightF rs (worthF rs (0, 1)) = true := by simp [rightF, hg, hsh]
  rw [r1] at a1
  have a2 := adds_T (t := true) ho hl (worthF rs (0, 1))
  have a3 := e_right (t := true) hF_T ho hl (worthF rs (0, 1))
  obtain ⟨f9, a4⟩ := e_worth (t := true) hF_T ho hl
  have a5 := adds_T (t := true) ho hl (worthF rs' (0, 1))
  have a6 := e_right (t := true) hF_T ho hl (worthF rs' (0, 1))
  have eqB : ∀ (n : Bool) (a : Bool) (f g : Bool) (st : Store), fEq n (.v (.bl a) f) (.v (.bl a) g) st = .ok (.v (.bl (!n)) false) st := fun n a f g st => by
    cases n <;> simp [fEq, A.dataOf, toD, toDs, SeqAt.shaped, PyData.canLay0, PyData.canLayAll0, PyData.depthAll, PyData.depth, PyData.eqv, PyData.eqvAll, runP, runI, slots0, A.strip, dRet, dRetN, Res.flow, Res.then, dBin, dI2, dVar, dC, fIx, okP, okV, freeze, L2.atI, L2.ixN, dSeq, dIf, dSet, dExpr, dB, dArg, dCons, dNil, callP, toPs, toP, PRes.res, dNext, dB1, fLen, lenOf, fAbs, fAdd, dAnd, dOr, dNot, dAndV, dOrV, dNotV, dBV, dIfE, dTup, dLst, newL, dAsg, gN, gT, gU, unP, gC, gE, dForE, forR, lstAt, turnsAt, dCompE, compR, isLst, dMeth, dMeth0, putL, itemsOf, fAppend, fExtend, fClear, fPop, fPopAt, fInsert, fReverse, fPut, dPut, fInts, dAug, dNeg, dPar, fInt, fMax2, fMin2, Nat.ble, dBreak, dCont, dComp, compL, noEx, wipeS, dYes, dRange1, dRange2, asI1, asI2, bnd, dItem, itemsV, dSlice, dPart, dNoPart, fSlice, A.cut, HT.sIx, A.listOf,  noBor, noBors, views, view, viewN, optAll]
  have nt : ∀ st, fEq true (.v (.lst true (rs'.map rowT)) true) (.v (.lst true (rs'.map rowT)) true) st = .ok (.v (.bl false) false) st := fun st => ne_told
  have isb : ∀ (b f : Bool) (st : Store), fIsi tb cs [.v (.bl b) f, .v (.ty "bool") false] st = .ok (.v (.bl true) false) st := fun b f st => by simp [fIsi, tyA, tyP, clsTy, okTy, tb, kB_ii, kB_ib, kB_tt, kB_bb, kB_ll, kB_ss]
  refine ⟨false, st', ?_⟩
  unfold d_law_t8
  refine (dSeq_nx q6).trans ?_
  simp [dSeq, dSet, dIf, dOr, dNot, dB, dB1, dNext, dRet, dCall, dArg, dCons, dNil, dVar, dC, dBin, dAndV, Res.then, Res.flow, callP, toPs, PRes.res, q7, a1, a2, a3, a4, a5, a6, eqB, nt, isb, Nat.beq]
theorem den (ns : List Int) (hln : ns.length ≤ 63) : ∃ fr, f_law [.scr ns] = .ok (.bl true) fr := by
  obtain ⟨cv, hc⟩ := cells ns
  obtain ⟨m, em, m20⟩ := many_ok ns hln hc
  obtain ⟨n, hn0, hn1, hn2⟩ : ∃ n : Nat, (if m > 1 then m else 1) = (n : Int) ∧ 1 ≤ n ∧ n ≤ 20 := by
    by_cases h : m > 1
    · exact ⟨m.toNat, by rw [if_pos h]; omega, by omega, by omega⟩
    · exact ⟨1, by rw [if_neg h]; rfl, by decide, by decide⟩
  obtain ⟨s1, s2⟩ := sum_le (cv := cv) n
  have mk := e_made hc hn2
  have len : ((List.range n).map (mkR cv (wts cv n).sum)).length = n := by simp
  have hs : ∀ r ∈ (List.range n).map (mkR cv (wts cv n).sum), RwS r := fun r hr => by
    obtain ⟨k, _, rfl⟩ := List.mem_map.mp hr
    exact mkR_s (by omega) (by omega)
  have hg : okR ((List.range n).map (mkR cv (wts cv n).sum)) = true := by
    unfold okR
    rw [List.all_eq_true]
    intro r hr
    obtain ⟨k, _, rfl⟩ := List.mem_map.mp hr
    exact good_made (by omega)
  have hsh := shF_made (cv := cv) hn1
  obtain ⟨st', is', rs', fw, x5, hh, ho, hl, e⟩ := half hc hs (by omega) (by omega) hg hsh (some (.v (.int (n : Int)) false))
  obtain ⟨fr, st2, e2⟩ := second (ns := ns) (fun r hr => (hs r hr).ok) (by omega) hg hsh hh ho hl (some (.v (.scr ns) false)) (some (.v (.int (n : Int)) false)) x5 fw
  refine ⟨fr, ?_⟩
  have q1 : dSet 1 (dB1 fMax2 (dCons (dC (.int (1))) (dCons (dCall 3 f__law_many (dCons (dVar 0) (dCons (dC (.int (3))) (dCons (dC (.int (20))) (dNil))))) (dNil)))) (slots0 11 [.v (.scr ns) false]) [] = .nx [some (.v (.scr ns) false), some (.v (.int (n : Int)) false), none, none, none, none, none, none, none, none, none] [] := by
    refine dSet_ok ?_
    simp [slots0, A.strip, dB1, dCons, dNil, dC, dVar, dCall, dArg, callP, toPs, em, PRes.res, Res.then, fMax2, hn0, Nat.beq]
  have q2 : dSet 2 (dCallI 2 i__law_made (dCons (dVar 0) (dCons (dVar 1) (dNil)))) [some (.v (.scr ns) false), some (.v (.int (n : Int)) false), none, none, none, none, none, none, none, none, none] [] = .nx [some (.v (.scr ns) false), some (.v (.int (n : Int)) false), some (.ref 0), none, none, none, none, none, none, none, none] (stR ((List.range n).map (mkR cv (wts cv n).sum))) := dSet_ok (dCallI_ok (xs := [.v (.scr ns) false, .v (.int (n : Int)) false]) rfl rfl mk)
  have dl : d_law (slots0 11 [.v (.scr ns) false]) [] = .rt (.v (.bl true) fr) st2 := by
    unfold d_law
    exact (dSeq_nx q1).trans ((dSeq_nx q2).trans (e.trans e2))
  show runP 11 d_law [.scr ns] = _
  unfold runP
  show (match d_law (slots0 11 [.v (.scr ns) false]) [] with
  | .nx _ _ => PRes.ok .non false
  | .rt x st => freeze st x
  | .ex e _ _ => .ex e
  | _ => .bad) = _
  rw [dl]
  rfl
end Law

namespace Law
open PySem PySem.Spec PyProof.Rows L2 A
def top (i : Nat) : Stmt := PySem.Challenge.pw_lidprice_k63_rows_that_add_up.main.body.getD i (.Pass ⟨0, 0, 0, 0⟩)
def fa : List He.Fa := [.free "abs", .glo "divisor", .glo "share", .glo "whole", .glo "below", .glo "plus", .glo "times", .free "len", .glo "_law_cell_at", .free "max", .free "min", .glo "_law_divisor", .glo "_law_share", .free "range", .free "sum", .glo "_law_plus", .glo "_law_worth", .glo "_law_many", .glo "_law_made", .free "tuple", .glo "adds_up", .glo "_law_spoilt", .free "list", .free "bool", .free "isinstance", .glo "_law_right", .glo "law"]
def dd_divisor : He.DefD := ⟨("divisor", none), "divisor", "divisor", defArgs (top 1), defBody (top 1), defScope (top 1), [], []⟩
def dd_share : He.DefD := ⟨("share", none), "share", "share", defArgs (top 2), defBody (top 2), defScope (top 2), [], []⟩
def dd_whole : He.DefD := ⟨("whole", none), "whole", "whole", defArgs (top 3), defBody (top 3), defScope (top 3), [], []⟩
def dd_plus : He.DefD := ⟨("plus", none), "plus", "plus", defArgs (top 4), defBody (top 4), defScope (top 4), [], []⟩
def dd_times : He.DefD := ⟨("times", none), "times", "times", defArgs (top 5), defBody (top 5), defScope (top 5), [], []⟩
def dd_below : He.DefD := ⟨("below", none), "below", "below", defArgs (top 6), defBody (top 6), defScope (top 6), [], []⟩
def dd_adds_up : He.DefD := ⟨("adds_up", none), "adds_up", "adds_up", defArgs (top 8), defBody (top 8), defScope (top 8), [], []⟩
def dd__law_cell_at : He.DefD := ⟨("_law_cell_at", none), "_law_cell_at", "_law_cell_at", defArgs (top 10), defBody (top 10), defScope (top 10), [], []⟩
def dd__law_many : He.DefD := ⟨("_law_many", none), "_law_many", "_law_many", defArgs (top 11), defBody (top 11), defScope (top 11), [], []⟩
def dd__law_divisor : He.DefD := ⟨("_law_divisor", none), "_law_divisor", "_law_divisor", defArgs (top 12), defBody (top 12), defScope (top 12), [], []⟩
def dd__law_share : He.DefD := ⟨("_law_share", none), "_law_share", "_law_share", defArgs (top 13), defBody (top 13), defScope (top 13), [], []⟩
def dd__law_plus : He.DefD := ⟨("_law_plus", none), "_law_plus", "_law_plus", defArgs (top 14), defBody (top 14), defScope (top 14), [], []⟩
def dd__law_made : He.DefD := ⟨("_law_made", none), "_law_made", "_law_made", defArgs (top 15), defBody (top 15), defScope (top 15), [], []⟩
def dd__law_worth : He.DefD := ⟨("_law_worth", none), "_law_worth", "_law_worth", defArgs (top 16), defBody (top 16), defScope (top 16), [], []⟩
def dd__law_right : He.DefD := ⟨("_law_right", none), "_law_right", "_law_right", defArgs (top 17), defBody (top 17), defScope (top 17), [], []⟩
def dd__law_spoilt : He.DefD := ⟨("_law_spoilt", none), "_law_spoilt", "_law_spoilt", defArgs (top 18), defBody (top 18), defScope (top 18), [], []⟩
def dd_law : He.DefD := ⟨("law", none), "law", "law", defArgs (top 19), defBody (top 19), defScope (top 19), [], []⟩
def fn : List He.DefD := [dd_divisor, dd_share, dd_whole, dd_plus, dd_times, dd_below, dd_adds_up, dd__law_cell_at, dd__law_many, dd__law_divisor, dd__law_share, dd__law_plus, dd__law_made, dd__law_worth, dd__law_right, dd__law_spoilt, dd_law]
section
variable {g : Gd}
theorem kit (T : PF g fa fn) : KitOk g.c tb cs := ⟨(fun t u b h => by
  cases t with
  | b x =>
    cases u with
    | b y => exact kit_ty h
    | o C => cases h
  | o C => cases h), (fun C h => by cases h)⟩
abbrev s_divisor : Stmt := top 1
def n_divisor : List Str := ["one", "other", "rest"]
theorem sc_divisor : FnScope n_divisor ["one", "other"] (defScope s_divisor) := ⟨rfl, rfl, rfl, by decide +kernel, rfl, by decide +kernel, by decide +kernel⟩
theorem ok_divisor (T : PF g fa fn) : FnAt g 41 (He.ga g.c.K "divisor") 2 [] (spP g.c 2 f_divisor) := by
  obtain ⟨fd, FF⟩ := T.c.def_ 0 (d := dd_divisor) rfl
  exact fnAtP FF sc_divisor rfl rfl (fun _ _ _ _ _ _ us hl => match us, hl with | [_, _], _ => rfl) fun e cg tk hr =>
    have cn := cg.cn (hr.mono (by decide))
    pssa_cons (psa_set cn (i := 0) (pea_callB call_abs cr_abs (T.free 0) (by decide +kernel) (paa_cons (pea_var 0) (paa_nil))))
      (pssa_cons (psa_set cn (i := 1) (pea_callB call_abs cr_abs (T.free 0) (by decide +kernel) (paa_cons (pea_var 1) (paa_nil))))
      (pssa_cons (psa_while cn (natSlot 1) (pta_cmp op_gt r2_gt (pea_var 1) (pea_int)) (pssa_cons (psa_set cn (i := 2) (pea_op op_modN r2_mod (pea_var 0) (pea_var 1)))
      (pssa_cons (psa_set cn (i := 0) (pea_var 1))
      (pssa_one (psa_set cn (i := 1) (pea_var 2))))))
      (pssa_one (psa_ret (pea_var 0)))))

theorem okg_divisor (T : PF g fa fn) : FnAt g 41 (He.ga g.c.K "divisor") 2 [] (spP g.c 2 g_divisor) := g_divisor_eq ▸ ok_divisor T

abbrev s_share : Stmt := top 2
def n_share : List Str := ["top", "bottom", "by"]
theorem sc_share : FnScope n_share ["top", "bottom"] (defScope s_share) := ⟨rfl, rfl, rfl, by decide +kernel, rfl, by decide +kernel, by decide +kernel⟩
theorem ok_share (T : PF g fa fn) : FnAt g 42 (He.ga g.c.K "share") 2 [] (spP g.c 2 f_share) := by
  obtain ⟨fd, FF⟩ := T.c.def_ 1 (d := dd_share) rfl
  exact fnAtP FF sc_share rfl rfl (fun _ _ _ _ _ _ us hl => match us, hl with | [_, _], _ => rfl) fun e cg tk hr =>
    have cn := cg.cn (hr.mono (by decide))
    pssa_cons (psa_set cn (i := 2) (pea_call ok_P cg tk (T.glo 1) (okg_divisor T) (hr.mono (by decide)) (paa_cons (pea_var 0) (paa_cons (pea_var 1) (paa_nil)))))
      (pssa_cons (psa_if (pta_cmp op_lt r2_lt (pea_var 1) (pea_int)) (pssa_one (psa_set cn (i := 2) (pea_op op_sub r2_sub (pea_int) (pea_var 2)))) (pssa_nil))
      (pssa_one (psa_ret (pea_tup (paa_cons (pea_op (op_fdivA cn) r2_fdiv (pea_var 0) (pea_var 2)) (paa_cons (pea_op (op_fdivA cn) r2_fdiv (pea_var 1) (pea_var 2)) (paa_nil)))))))

theorem okg_share (T : PF g fa fn) : FnAt g 42 (He.ga g.c.K "share") 2 [] (spP g.c 2 g_share) := g_share_eq ▸ ok_share T

abbrev s_whole : Stmt := top 3
def n_whole : List Str := ["number"]
theorem sc_whole : FnScope n_whole ["number"] (defScope s_whole) := ⟨rfl, rfl, rfl, by decide +kernel, rfl, by decide +kernel, by decide +kernel⟩
theorem ok_whole (T : PF g fa fn) : FnAt g 41 (He.ga g.c.K "whole") 1 [] (spP g.c 1 f_whole) := by
  obtain ⟨fd, FF⟩ := T.c.def_ 2 (d := dd_whole) rfl
  exact fnAtP FF sc_whole rfl rfl (fun _ _ _ _ _ _ us hl => match us, hl with | [_], _ => rfl) fun e cg tk hr =>
    have cn := cg.cn (hr.mono (by decide))
    pssa_one (psa_ret (pea_tup (paa_cons (pea_var 0) (paa_cons (pea_int) (paa_nil)))))

abbrev s_plus : Stmt := top 4
def n_plus : List Str := ["one", "other"]
theorem sc_plus : FnScope n_plus ["one", "other"] (defScope s_plus) := ⟨rfl, rfl, rfl, by decide +kernel, rfl, by decide +kernel, by decide +kernel⟩
theorem ok_plus (T : PF g fa fn) : FnAt g 43 (He.ga g.c.K "plus") 2 [] (spP g.c 2 f_plus) := by
  obtain ⟨fd, FF⟩ := T.c.def_ 3 (d := dd_plus) rfl
  exact fnAtP FF sc_plus rfl rfl (fun _ _ _ _ _ _ us hl => match us, hl with | [_, _], _ => rfl) fun e cg tk hr =>
    have cn := cg.cn (hr.mono (by decide))
    pssa_one (psa_ret (pea_call ok_P cg tk (T.glo 2) (okg_share T) (hr.mono (by decide)) (paa_cons (pea_op op_addA (r2_add false) (pea_op op_mulA r2_mul (pea_ix rfl (pea_var 0) (pea_int)) (pea_ix rfl (pea_var 1) (pea_int))) (pea_op op_mulA r2_mul (pea_ix rfl (pea_var 1) (pea_int)) (pea_ix rfl (pea_var 0) (pea_int)))) (paa_cons (pea_op op_mulA r2_mul (pea_ix rfl (pea_var 0) (pea_int)) (pea_ix rfl (pea_var 1) (pea_int))) (paa_nil)))))

theorem okg_plus (T : PF g fa fn) : FnAt g 43 (He.ga g.c.K "plus") 2 [] (spP g.c 2 g_plus) := g_plus_eq ▸ ok_plus T

abbrev s_times : Stmt := top 5
def n_times : List Str := ["one", "other"]
theorem sc_times : FnScope n_times ["one", "other"] (defScope s_times) := ⟨rfl, rfl, rfl, by decide +kernel, rfl, by decide +kernel, by decide +kernel⟩
theorem ok_times (T : PF g fa fn) : FnAt g 43 (He.ga g.c.K "times") 2 [] (spP g.c 2 f_times) := by
  obtain ⟨fd, FF⟩ := T.c.def_ 4 (d := dd_times) rfl
  exact fnAtP FF sc_times rfl rfl (fun _ _ _ _ _ _ us hl => match us, hl with | [_, _], _ => rfl) fun e cg tk hr =>
    have cn := cg.cn (hr.mono (by decide))
    pssa_one (psa_ret (pea_call ok_P cg tk (T.glo 2) (okg_share T) (hr.mono (by decide)) (paa_cons (pea_op op_mulA r2_mul (pea_ix rfl (pea_var 0) (pea_int)) (pea_ix rfl (pea_var 1) (pea_int))) (paa_cons (pea_op op_mulA r2_mul (pea_ix rfl (pea_var 0) (pea_int)) (pea_ix rfl (pea_var 1) (pea_int))) (paa_nil)))))

theorem okg_times (T : PF g fa fn) : FnAt g 43 (He.ga g.c.K "times") 2 [] (spP g.c 2 g_times) := g_times_eq ▸ ok_times T

abbrev s_below : Stmt := top 6
def n_below : List Str := ["one", "other"]
theorem sc_below : FnScope n_below ["one", "other"] (defScope s_below) := ⟨rfl, rfl, rfl, by decide +kernel, rfl, by decide +kernel, by decide +kernel⟩
theorem ok_below (T : PF g fa fn) : FnAt g 41 (He.ga g.c.K "below") 2 [] (spP g.c 2 f_below) := by
  obtain ⟨fd, FF⟩ := T.c.def_ 5 (d := dd_below) rfl
  exact fnAtP FF sc_below rfl rfl (fun _ _ _ _ _ _ us hl => match us, hl with | [_, _], _ => rfl) fun e cg tk hr =>
    have cn := cg.cn (hr.mono (by decide))
    pssa_one (psa_ret (pea_cmp op_lt r2_lt (pea_op op_mulA r2_mul (pea_ix rfl (pea_var 0) (pea_int)) (pea_ix rfl (pea_var 1) (pea_int))) (pea_op op_mulA r2_mul (pea_ix rfl (pea_var 1) (pea_int)) (pea_ix rfl (pea_var 0) (pea_int)))))

theorem okg_below (T : PF g fa fn) : FnAt g 41 (He.ga g.c.K "below") 2 [] (spP g.c 2 g_below) := g_below_eq ▸ ok_below T

abbrev s_adds_up : Stmt := top 8
def n_adds_up : List Str := ["worth", "rows", "nought", "shares", "total", "way", "share", "had", "left", "missed"]
theorem sc_adds_up : FnScope n_adds_up ["worth", "rows"] (defScope s_adds_up) := ⟨rfl, rfl, rfl, by decide +kernel, rfl, by decide +kernel, by decide +kernel⟩
theorem ok_adds_up (T : PF g fa fn) : FnAt g 44 (He.ga g.c.K "adds_up") 2 [] (spP g.c 2 f_adds_up) := by
  obtain ⟨fd, FF⟩ := T.c.def_ 6 (d := dd_adds_up) rfl
  exact fnAtP FF sc_adds_up rfl rfl (fun _ _ _ _ _ _ us hl => match us, hl with | [_, _], _ => rfl) fun e cg tk hr =>
    have cn := cg.cn (hr.mono (by decide))
    pssa_cons (psa_set cn (i := 2) (pea_call ok_P cg tk (T.glo 3) (ok_whole T) (hr.mono (by decide)) (paa_cons (pea_int) (paa_nil))))
      (pssa_cons (psa_set cn (i := 3) (pea_var 2))
      (pssa_cons (psa_set cn (i := 4) (pea_var 2))
      (pssa_cons (psa_forE cn (pea_var 1) (pga_un cn (pgsa_cons (pga_nameC (i := 5) cn) (pgsa_cons (pga_nameC (i := 6) cn) (pgsa_cons (pga_nameC (i := 7) cn) (pgsa_cons (pga_nameC (i := 8) cn) (pgsa_cons (pga_nameC (i := 9) cn) (pgsa_nil))))))) (pssa_cons (psa_if (pta_w (pwa_or (pta_not (pta_val (pea_call ok_P cg tk (T.glo 4) (okg_below T) (hr.mono (by decide)) (paa_cons (pea_var 2) (paa_cons (pea_var 6) (paa_nil)))))) (pwa_or (pta_val (pea_call ok_P cg tk (T.glo 4) (okg_below T) (hr.mono (by decide)) (paa_cons (pea_var 8) (paa_cons (pea_var 2) (paa_nil))))) (pwa_or1 (pta_val (pea_call ok_P cg tk (T.glo 4) (okg_below T) (hr.mono (by decide)) (paa_cons (pea_var 9) (paa_cons (pea_var 2) (paa_nil))))))))) (pssa_one (psa_ret (pea_bl))) (pssa_nil))
      (pssa_cons (psa_set cn (i := 3) (pea_call ok_P cg tk (T.glo 5) (okg_plus T) (hr.mono (by decide)) (paa_cons (pea_var 3) (paa_cons (pea_var 6) (paa_nil)))))
      (pssa_one (psa_set cn (i := 4) (pea_call ok_P cg tk (T.glo 5) (okg_plus T) (hr.mono (by decide)) (paa_cons (pea_var 4) (paa_cons (pea_call ok_P cg tk (T.glo 6) (okg_times T) (hr.mono (by decide)) (paa_cons (pea_var 6) (paa_cons (pea_call ok_P cg tk (T.glo 5) (okg_plus T) (hr.mono (by decide)) (paa_cons (pea_call ok_P cg tk (T.glo 3) (ok_whole T) (hr.mono (by decide)) (paa_cons (pea_var 7) (paa_nil))) (paa_cons (pea_call ok_P cg tk (T.glo 5) (okg_plus T) (hr.mono (by decide)) (paa_cons (pea_var 8) (paa_cons (pea_var 9) (paa_nil)))) (paa_nil)))) (paa_nil)))) (paa_nil)))))))))
      (pssa_one (psa_ret (pea_and (pea_cmp (op_eqC cn) r2_eq (pea_var 3) (pea_call ok_P cg tk (T.glo 3) (ok_whole T) (hr.mono (by decide)) (paa_cons (pea_int) (paa_nil)))) (pea_one (pea_cmp (op_eqC cn) r2_eq (pea_var 4) (pea_var 0)))))))))

abbrev s__law_cell_at : Stmt := top 10
def n__law_cell_at : List Str := ["_law_script", "_law_k", "_law_number"]
theorem sc__law_cell_at : FnScope n__law_cell_at ["_law_script", "_law_k"] (defScope s__law_cell_at) := ⟨rfl, rfl, rfl, by decide +kernel, rfl, by decide +kernel, by decide +kernel⟩
theorem ok__law_cell_at (T : PF g fa fn) : FnAt g 41 (He.ga g.c.K "_law_cell_at") 2 [] (spP g.c 2 f__law_cell_at) := by
  obtain ⟨fd, FF⟩ := T.c.def_ 7 (d := dd__law_cell_at) rfl
  exact fnAtP FF sc__law_cell_at rfl rfl (fun _ _ _ _ _ _ us hl => match us, hl with | [_, _], _ => rfl) fun e cg tk hr =>
    have cn := cg.cn (hr.mono (by decide))
    pssa_cons (psa_set cn (i := 2) (pea_op op_addA (r2_add false) (pea_op op_mulA r2_mul (pea_int) (pea_var 1)) (pea_int)))
      (pssa_cons (psa_if (pta_cmp op_lt r2_lt (pea_var 1) (pea_callB call_lenA cr_lenA (T.free 7) (by decide +kernel) (paa_cons (pea_var 0) (paa_nil)))) (pssa_one (psa_set cn (i := 2) (pea_ix rfl (pea_var 0) (pea_var 1)))) (pssa_nil))
      (pssa_cons (psa_set cn (i := 2) (pea_op op_modN r2_mod (pea_op op_addA (r2_add false) (pea_op op_addA (r2_add false) (pea_op op_mulA r2_mul (pea_op op_modN r2_mod (pea_var 2) (pea_int)) (pea_int)) (pea_op op_mulA r2_mul (pea_int) (pea_var 1))) (pea_int)) (pea_int)))
      (pssa_cons (psa_set cn (i := 2) (pea_op op_modN r2_mod (pea_op op_mulA r2_mul (pea_var 2) (pea_var 2)) (pea_int)))
      (pssa_one (psa_ret (pea_op op_modN r2_mod (pea_op op_addA (r2_add false) (pea_op op_addA (r2_add false) (pea_op op_mulA r2_mul (pea_var 2) (pea_var 2)) (pea_op op_mulA r2_mul (pea_int) (pea_var 2))) (pea_var 1)) (pea_int)))))))

abbrev s__law_many : Stmt := top 11
def n__law_many : List Str := ["_law_script", "_law_first", "_law_most", "_law_drawn"]
theorem sc__law_many : FnScope n__law_many ["_law_script", "_law_first", "_law_most"] (defScope s__law_many) := ⟨rfl, rfl, rfl, by decide +kernel, rfl, by decide +kernel, by decide +kernel⟩
theorem ok__law_many (T : PF g fa fn) : FnAt g 42 (He.ga g.c.K "_law_many") 3 [] (spP g.c 3 f__law_many) := by
  obtain ⟨fd, FF⟩ := T.c.def_ 8 (d := dd__law_many) rfl
  exact fnAtP FF sc__law_many rfl rfl (fun _ _ _ _ _ _ us hl => match us, hl with | [_, _, _], _ => rfl) fun e cg tk hr =>
    have cn := cg.cn (hr.mono (by decide))
    pssa_cons (psa_set cn (i := 3) (pea_op op_modN r2_mod (pea_op (op_fdivA cn) r2_fdiv (pea_call ok_P cg tk (T.glo 8) (ok__law_cell_at T) (hr.mono (by decide)) (paa_cons (pea_var 0) (paa_cons (pea_op op_sub r2_sub (pea_var 1) (pea_int)) (paa_nil)))) (pea_int)) (pea_op op_addA (r2_add false) (pea_var 2) (pea_int))))
      (pssa_one (psa_ret (pea_callB (call_min2C cn) cr_min2A (T.free 10) (by decide +kernel) (paa_cons (pea_var 2) (paa_cons (pea_callB (call_max2C cn) cr_max2A (T.free 9) (by decide +kernel) (paa_cons (pea_var 3) (paa_cons (pea_op op_sub r2_sub (pea_callB call_lenA cr_lenA (T.free 7) (by decide +kernel) (paa_cons (pea_var 0) (paa_nil))) (pea_var 1)) (paa_nil)))) (paa_nil))))))

abbrev s__law_divisor : Stmt := top 12
def n__law_divisor : List Str := ["_law_one", "_law_other"]
theorem sc__law_divisor : FnScope n__law_divisor ["_law_one", "_law_other"] (defScope s__law_divisor) := ⟨rfl, rfl, rfl, by decide +kernel, rfl, by decide +kernel, by decide +kernel⟩
theorem ok__law_divisor (T : PF g fa fn) : FnAt g 41 (He.ga g.c.K "_law_divisor") 2 [] (spP g.c 2 f__law_divisor) := by
  obtain ⟨fd, FF⟩ := T.c.def_ 9 (d := dd__law_divisor) rfl
  exact fnAtP FF sc__law_divisor rfl rfl (fun _ _ _ _ _ _ us hl => match us, hl with | [_, _], _ => rfl) fun e cg tk hr =>
    have cn := cg.cn (hr.mono (by decide))
    pssa_cons (psa_while cn (natSlot 1) (pta_cmp op_gt r2_gt (pea_var 1) (pea_int)) (pssa_one (psa_par cn (i := 0) (j := 1) (paa_cons (pea_var 1) (paa_cons (pea_op op_modN r2_mod (pea_var 0) (pea_var 1)) (paa_nil))) rfl)))
      (pssa_one (psa_ret (pea_var 0)))

theorem okg__law_divisor (T : PF g fa fn) : FnAt g 41 (He.ga g.c.K "_law_divisor") 2 [] (spP g.c 2 g__law_divisor) := g__law_divisor_eq ▸ ok__law_divisor T

abbrev s__law_share : Stmt := top 13
def n__law_share : List Str := ["_law_top", "_law_bottom", "_law_by"]
theorem sc__law_share : FnScope n__law_share ["_law_top", "_law_bottom"] (defScope s__law_share) := ⟨rfl, rfl, rfl, by decide +kernel, rfl, by decide +kernel, by decide +kernel⟩
theorem ok__law_share (T : PF g fa fn) : FnAt g 42 (He.ga g.c.K "_law_share") 2 [] (spP g.c 2 f__law_share) := by
  obtain ⟨fd, FF⟩ := T.c.def_ 10 (d := dd__law_share) rfl
  exact fnAtP FF sc__law_share rfl rfl (fun _ _ _ _ _ _ us hl => match us, hl with | [_, _], _ => rfl) fun e cg tk hr =>
    have cn := cg.cn (hr.mono (by decide))
    pssa_cons (psa_set cn (i := 2) (pea_call ok_P cg tk (T.glo 11) (okg__law_divisor T) (hr.mono (by decide)) (paa_cons (pea_var 1) (paa_cons (pea_callB call_abs cr_abs (T.free 0) (by decide +kernel) (paa_cons (pea_var 0) (paa_nil))) (paa_nil)))))
      (pssa_one (psa_ret (pea_tup (paa_cons (pea_op (op_fdivA cn) r2_fdiv (pea_var 0) (pea_var 2)) (paa_cons (pea_op (op_fdivA cn) r2_fdiv (pea_var 1) (pea_var 2)) (paa_nil))))))

theorem okg__law_share (T : PF g fa fn) : FnAt g 42 (He.ga g.c.K "_law_share") 2 [] (spP g.c 2 g__law_share) := g__law_share_eq ▸ ok__law_share T

abbrev s__law_plus : Stmt := top 14
def n__law_plus : List Str := ["_law_one", "_law_other"]
theorem sc__law_plus : FnScope n__law_plus ["_law_one", "_law_other"] (defScope s__law_plus) := ⟨rfl, rfl, rfl, by decide +kernel, rfl, by decide +kernel, by decide +kernel⟩
theorem ok__law_plus (T : PF g fa fn) : FnAt g 43 (He.ga g.c.K "_law_plus") 2 [] (spP g.c 2 f__law_plus) := by
  obtain ⟨fd, FF⟩ := T.c.def_ 11 (d := dd__law_plus) rfl
  exact fnAtP FF sc__law_plus rfl rfl (fun _ _ _ _ _ _ us hl => match us, hl with | [_, _], _ => rfl) fun e cg tk hr =>
    have cn := cg.cn (hr.mono (by decide))
    pssa_one (psa_ret (pea_call ok_P cg tk (T.glo 12) (okg__law_share T) (hr.mono (by decide)) (paa_cons (pea_op op_addA (r2_add false) (pea_op op_mulA r2_mul (pea_ix rfl (pea_var 0) (pea_int)) (pea_ix rfl (pea_var 1) (pea_int))) (pea_op op_mulA r2_mul (pea_ix rfl (pea_var 1) (pea_int)) (pea_ix rfl (pea_var 0) (pea_int)))) (paa_cons (pea_op op_mulA r2_mul (pea_ix rfl (pea_var 0) (pea_int)) (pea_ix rfl (pea_var 1) (pea_int))) (paa_nil)))))

theorem okg__law_plus (T : PF g fa fn) : FnAt g 43 (He.ga g.c.K "_law_plus") 2 [] (spP g.c 2 g__law_plus) := g__law_plus_eq ▸ ok__law_plus T

abbrev s__law_made : Stmt := top 15
def n__law_made : List Str := ["_law_script", "_law_many_here", "_law_weights", "_law_rows", "_law_k", "_law_cell", "_law_left", "_law_missed", "_law_part"]
theorem sc__law_made : FnScope n__law_made ["_law_script", "_law_many_here"] (defScope s__law_made) := ⟨rfl, rfl, rfl, by decide +kernel, rfl, by decide +kernel, by decide +kernel⟩
theorem oki__law_made (T : PF g fa fn) : FnAt g 43 (He.ga g.c.K "_law_made") 2 [] (spI g.c 2 i__law_made) := by
  obtain ⟨fd, FF⟩ := T.c.def_ 12 (d := dd__law_made) rfl
  exact fnAtI FF sc__law_made rfl rfl (fun _ _ _ _ _ _ us hl => match us, hl with | [_, _], _ => rfl) fun e cg tk hr =>
    have cn := cg.cn (hr.mono (by decide))
    pssa_cons (psa_setLc false (i := 2) (own := [("_law_k", 4)]) cn (pia_range1 (T.free 13) (paa_cons (pea_var 1) (paa_nil))) (blkOk_by (own := [("_law_k", 4)]) (N := n__law_made) (sc := defScope s__law_made) (by decide +kernel)) (by decide) (fun _ _ _ _ _ => pga_nameC (i := 4) cn.blk) (fun _ _ _ _ _ => ptsa_nil) (fun _ _ _ _ _ => pea_op op_addA (r2_add false) (pea_int) (pea_op op_modN r2_mod (pea_call ok_P cg.blk tk0 (T.glo 8) (ok__law_cell_at T) (hr.mono (by decide)) (paa_cons (pea_var 0) (paa_cons (pea_op op_addA (r2_add false) (pea_int) (pea_var 4)) (paa_nil)))) (pea_ix rfl (pea_lst false (paa_cons (pea_int) (paa_cons (pea_int) (paa_nil)))) (pea_op op_modN r2_mod (pea_var 4) (pea_int))))) (sw_true rfl rfl rfl (by decide +kernel)))
      (pssa_cons (psa_set cn (i := 3) (pea_lst true (paa_nil)))
      (pssa_cons (psa_for cn (pia_range1 (T.free 13) (paa_cons (pea_var 1) (paa_nil))) (pga_nameC (i := 4) cn) (pssa_cons (psa_set cn (i := 5) (pea_call ok_P cg tk (T.glo 8) (ok__law_cell_at T) (hr.mono (by decide)) (paa_cons (pea_var 0) (paa_cons (pea_op op_addA (r2_add false) (pea_int) (pea_var 4)) (paa_nil)))))
      (pssa_cons (psa_set cn (i := 6) (pea_call ok_P cg tk (T.glo 12) (okg__law_share T) (hr.mono (by decide)) (paa_cons (pea_op op_mulA r2_mul (pea_op op_modN r2_mod (pea_op (op_fdivA cn) r2_fdiv (pea_var 5) (pea_int)) (pea_int)) (pea_op op_modN r2_mod (pea_op (op_fdivA cn) r2_fdiv (pea_var 5) (pea_int)) (pea_int))) (paa_cons (pea_op op_addA (r2_add false) (pea_int) (pea_op op_modN r2_mod (pea_op (op_fdivA cn) r2_fdiv (pea_var 5) (pea_int)) (pea_int))) (paa_nil)))))
      (pssa_cons (psa_set cn (i := 7) (pea_call ok_P cg tk (T.glo 12) (okg__law_share T) (hr.mono (by decide)) (paa_cons (pea_op op_mulA r2_mul (pea_op op_modN r2_mod (pea_op (op_fdivA cn) r2_fdiv (pea_var 5) (pea_int)) (pea_int)) (pea_op op_modN r2_mod (pea_op (op_fdivA cn) r2_fdiv (pea_var 5) (pea_int)) (pea_op op_pow r2_pow (pea_int) (pea_int)))) (paa_cons (pea_op op_addA (r2_add false) (pea_int) (pea_op op_modN r2_mod (pea_op (op_fdivA cn) r2_fdiv (pea_var 5) (pea_int)) (pea_int))) (paa_nil)))))
      (pssa_cons (psa_set cn (i := 8) (pea_call ok_P cg tk (T.glo 12) (okg__law_share T) (hr.mono (by decide)) (paa_cons (pea_ix rfl (pea_var 2) (pea_var 4)) (paa_cons (pea_callB (cr_sumC cn) cr_sumA (T.free 14) (by decide +kernel) (paa_cons (pea_var 2) (paa_nil))) (paa_nil)))))
      (pssa_one (psa_expr (pea_meth cn PySem.F.slot_list_append PySem.F.type_list_append mt_append mr_append (pea_var 3) (paa_cons (pea_lst true (paa_cons (pea_tup (paa_cons (pea_var 4) (paa_cons (pea_op op_modN r2_mod (pea_var 5) (pea_int)) (paa_nil)))) (paa_cons (pea_var 8) (paa_cons (pea_op op_sub r2_sub (pea_op op_modN r2_mod (pea_op op_mulA r2_mul (pea_var 5) (pea_int)) (pea_op op_addA (r2_add false) (pea_op op_mulA r2_mul (pea_int) (pea_op op_pow r2_pow (pea_int) (pea_int))) (pea_int))) (pea_op op_pow r2_pow (pea_int) (pea_int))) (paa_cons (pea_var 6) (paa_cons (pea_var 7) (paa_nil))))))) (paa_nil))))))))))
      (pssa_one (psa_ret (pea_var 3)))))

abbrev s__law_worth : Stmt := top 16
def n__law_worth : List Str := ["_law_rows", "_law_found", "_law_way", "_law_part", "_law_had", "_law_left", "_law_missed", "_law_inner"]
theorem sc__law_worth : FnScope n__law_worth ["_law_rows"] (defScope s__law_worth) := ⟨rfl, rfl, rfl, by decide +kernel, rfl, by decide +kernel, by decide +kernel⟩
theorem ok__law_worth (T : PF g fa fn) : FnAt g 44 (He.ga g.c.K "_law_worth") 1 [] (spP g.c 1 f__law_worth) := by
  obtain ⟨fd, FF⟩ := T.c.def_ 13 (d := dd__law_worth) rfl
  exact fnAtP FF sc__law_worth rfl rfl (fun _ _ _ _ _ _ us hl => match us, hl with | [_], _ => rfl) fun e cg tk hr =>
    have cn := cg.cn (hr.mono (by decide))
    pssa_cons (psa_set cn (i := 1) (pea_tup (paa_cons (pea_int) (paa_cons (pea_int) (paa_nil)))))
      (pssa_cons (psa_forE cn (pea_var 0) (pga_un cn (pgsa_cons (pga_nameC (i := 2) cn) (pgsa_cons (pga_nameC (i := 3) cn) (pgsa_cons (pga_nameC (i := 4) cn) (pgsa_cons (pga_nameC (i := 5) cn) (pgsa_cons (pga_nameC (i := 6) cn) (pgsa_nil))))))) (pssa_cons (psa_set cn (i := 7) (pea_call ok_P cg tk (T.glo 15) (okg__law_plus T) (hr.mono (by decide)) (paa_cons (pea_tup (paa_cons (pea_var 4) (paa_cons (pea_int) (paa_nil)))) (paa_cons (pea_call ok_P cg tk (T.glo 15) (okg__law_plus T) (hr.mono (by decide)) (paa_cons (pea_var 5) (paa_cons (pea_var 6) (paa_nil)))) (paa_nil)))))
      (pssa_one (psa_set cn (i := 1) (pea_call ok_P cg tk (T.glo 15) (okg__law_plus T) (hr.mono (by decide)) (paa_cons (pea_var 1) (paa_cons (pea_call ok_P cg tk (T.glo 12) (okg__law_share T) (hr.mono (by decide)) (paa_cons (pea_op op_mulA r2_mul (pea_ix rfl (pea_var 3) (pea_int)) (pea_ix rfl (pea_var 7) (pea_int))) (paa_cons (pea_op op_mulA r2_mul (pea_ix rfl (pea_var 3) (pea_int)) (pea_ix rfl (pea_var 7) (pea_int))) (paa_nil)))) (paa_nil))))))))
      (pssa_one (psa_ret (pea_var 1))))

abbrev s__law_right : Stmt := top 17
def n__law_right : List Str := ["_law_rows", "_law_top", "_law_shares", "_law_way", "_law_part", "_law_had", "_law_left", "_law_missed"]
theorem sc__law_right : FnScope n__law_right ["_law_rows", "_law_top"] (defScope s__law_right) := ⟨rfl, rfl, rfl, by decide +kernel, rfl, by decide +kernel, by decide +kernel⟩
theorem ok__law_right (T : PF g fa fn) : FnAt g 45 (He.ga g.c.K "_law_right") 2 [] (spP g.c 2 f__law_right) := by
  obtain ⟨fd, FF⟩ := T.c.def_ 14 (d := dd__law_right) rfl
  exact fnAtP FF sc__law_right rfl rfl (fun _ _ _ _ _ _ us hl => match us, hl with | [_, _], _ => rfl) fun e cg tk hr =>
    have cn := cg.cn (hr.mono (by decide))
    pssa_cons (psa_set cn (i := 2) (pea_tup (paa_cons (pea_int) (paa_cons (pea_int) (paa_nil)))))
      (pssa_cons (psa_forE cn (pea_var 0) (pga_un cn (pgsa_cons (pga_nameC (i := 3) cn) (pgsa_cons (pga_nameC (i := 4) cn) (pgsa_cons (pga_nameC (i := 5) cn) (pgsa_cons (pga_nameC (i := 6) cn) (pgsa_cons (pga_nameC (i := 7) cn) (pgsa_nil))))))) (pssa_cons (psa_if (pta_w (pwa_or (pta_cmp op_lt r2_lt (pea_ix rfl (pea_var 4) (pea_int)) (pea_int)) (pwa_or (pta_cmp op_lt r2_lt (pea_ix rfl (pea_var 6) (pea_int)) (pea_int)) (pwa_or1 (pta_cmp op_lt r2_lt (pea_ix rfl (pea_var 7) (pea_int)) (pea_int)))))) (pssa_one (psa_ret (pea_bl))) (pssa_nil))
      (pssa_one (psa_set cn (i := 2) (pea_call ok_P cg tk (T.glo 15) (okg__law_plus T) (hr.mono (by decide)) (paa_cons (pea_var 2) (paa_cons (pea_var 4) (paa_nil))))))))
      (pssa_one (psa_ret (pea_and (pea_cmp (op_eqC cn) r2_eq (pea_var 2) (pea_tup (paa_cons (pea_int) (paa_cons (pea_int) (paa_nil))))) (pea_one (pea_cmp (op_eqC cn) r2_eq (pea_call ok_P cg tk (T.glo 16) (ok__law_worth T) (hr.mono (by decide)) (paa_cons (pea_var 0) (paa_nil))) (pea_var 1)))))))

abbrev s__law_spoilt : Stmt := top 18
def n__law_spoilt : List Str := ["_law_rows", "_law_cell", "_law_at", "_law_way", "_law_small", "_law_top", "_law_bottom", "_law_down"]
theorem sc__law_spoilt : FnScope n__law_spoilt ["_law_rows", "_law_cell"] (defScope s__law_spoilt) := ⟨rfl, rfl, rfl, by decide +kernel, rfl, by decide +kernel, by decide +kernel⟩
theorem oki__law_spoilt (T : PF g fa fn) : FnAt g 44 (He.ga g.c.K "_law_spoilt") 2 [] (spI g.c 2 i__law_spoilt) := by
  obtain ⟨fd, FF⟩ := T.c.def_ 15 (d := dd__law_spoilt) rfl
  exact fnAtI FF sc__law_spoilt rfl rfl (fun _ _ _ _ _ _ us hl => match us, hl with | [_, _], _ => rfl) fun e cg tk hr =>
    have cn := cg.cn (hr.mono (by decide))
    pssa_cons (psa_set cn (i := 2) (pea_op op_modN r2_mod (pea_op (op_fdivA cn) r2_fdiv (pea_var 1) (pea_int)) (pea_callB call_lenA cr_lenA (T.free 7) (by decide +kernel) (paa_cons (pea_var 0) (paa_nil)))))
      (pssa_cons (psa_set cn (i := 3) (pea_op op_modN r2_mod (pea_var 1) (pea_int)))
      (pssa_cons (psa_set cn (i := 4) (pea_call ok_P cg tk (T.glo 12) (okg__law_share T) (hr.mono (by decide)) (paa_cons (pea_ix rfl (pea_lst false (paa_cons (pea_int) (paa_cons (pea_neg (pea_int)) (paa_nil)))) (pea_op op_modN r2_mod (pea_op (op_fdivA cn) r2_fdiv (pea_var 1) (pea_int)) (pea_int))) (paa_cons (pea_op op_addA (r2_add false) (pea_int) (pea_op op_modN r2_mod (pea_op (op_fdivA cn) r2_fdiv (pea_var 1) (pea_int)) (pea_op op_pow r2_pow (pea_int) (pea_int)))) (paa_nil)))))
      (pssa_one (psa_if (pta_cmp (op_eqC cn) r2_eq (pea_var 3) (pea_int)) (pssa_one (psa_put (pea_call ok_P cg tk (T.glo 15) (okg__law_plus T) (hr.mono (by decide)) (paa_cons (pea_ix rfl (pea_ix rfl (pea_var 0) (pea_var 2)) (pea_int)) (paa_cons (pea_var 4) (paa_nil)))) (pea_ix rfl (pea_var 0) (pea_var 2)) (pea_int))) (pssa_one (psa_if (pta_cmp (op_eqC cn) r2_eq (pea_var 3) (pea_int)) (pssa_one (psa_put (pea_ix rfl (pea_lst false (paa_cons (pea_tup (paa_cons (pea_int) (paa_cons (pea_int) (paa_nil)))) (paa_cons (pea_tup (paa_cons (pea_neg (pea_int)) (paa_cons (pea_int) (paa_nil)))) (paa_nil)))) (pea_op op_modN r2_mod (pea_op (op_fdivA cn) r2_fdiv (pea_var 1) (pea_int)) (pea_int))) (pea_ix rfl (pea_var 0) (pea_var 2)) (pea_int))) (pssa_one (psa_if (pta_cmp (op_eqC cn) r2_eq (pea_var 3) (pea_int)) (pssa_one (psa_expr (pea_meth cn PySem.F.slot_list_pop PySem.F.type_list_pop mt_popAt mr_popAt (pea_var 0) (paa_cons (pea_var 2) (paa_nil))))) (pssa_one (psa_if (pta_cmp (op_eqC cn) r2_eq (pea_var 3) (pea_int)) (pssa_one (psa_put (pea_op op_addA (r2_add false) (pea_ix rfl (pea_ix rfl (pea_var 0) (pea_var 2)) (pea_int)) (pea_int)) (pea_ix rfl (pea_var 0) (pea_var 2)) (pea_int))) (pssa_one (psa_if (pta_w (pwa_or (pta_cmp (op_eqC cn) r2_eq (pea_var 3) (pea_int)) (pwa_or1 (pta_cmp (op_eqC cn) r2_eq (pea_var 3) (pea_int))))) (pssa_one (psa_put (pea_call ok_P cg tk (T.glo 15) (okg__law_plus T) (hr.mono (by decide)) (paa_cons (pea_ix rfl (pea_ix rfl (pea_var 0) (pea_var 2)) (pea_op op_sub r2_sub (pea_var 3) (pea_int))) (paa_cons (pea_var 4) (paa_nil)))) (pea_ix rfl (pea_var 0) (pea_var 2)) (pea_op op_sub r2_sub (pea_var 3) (pea_int)))) (pssa_one (psa_if (pta_w (pwa_or (pta_cmp (op_eqC cn) r2_eq (pea_var 3) (pea_int)) (pwa_or1 (pta_cmp (op_eqC cn) r2_eq (pea_var 3) (pea_int))))) (pssa_cons (psa_asg (pea_ix rfl (pea_ix rfl (pea_var 0) (pea_var 2)) (pea_op op_sub r2_sub (pea_var 3) (pea_int))) (pga_un cn (pgsa_cons (pga_nameC (i := 5) cn) (pgsa_cons (pga_nameC (i := 6) cn) (pgsa_nil)))))
      (pssa_cons (psa_set cn (i := 7) (pea_op op_addA (r2_add false) (pea_op (op_fdivA cn) r2_fdiv (pea_var 5) (pea_var 6)) (pea_int)))
      (pssa_cons (psa_put (pea_op op_addA (r2_add false) (pea_ix rfl (pea_ix rfl (pea_var 0) (pea_var 2)) (pea_int)) (pea_var 7)) (pea_ix rfl (pea_var 0) (pea_var 2)) (pea_int))
      (pssa_one (psa_put (pea_call ok_P cg tk (T.glo 15) (okg__law_plus T) (hr.mono (by decide)) (paa_cons (pea_tup (paa_cons (pea_var 5) (paa_cons (pea_var 6) (paa_nil)))) (paa_cons (pea_tup (paa_cons (pea_op op_sub r2_sub (pea_int) (pea_var 7)) (paa_cons (pea_int) (paa_nil)))) (paa_nil)))) (pea_ix rfl (pea_var 0) (pea_var 2)) (pea_op op_sub r2_sub (pea_var 3) (pea_int))))))) (pssa_nil)))))))))))))))

abbrev s_law : Stmt := top 19
def n_law : List Str := ["_law_script", "_law_many_here", "_law_rows", "_law_top", "_law_told", "_law_cell", "_law_spoilt_here", "_law_handed", "_law_found", "_law_other", "_law_row"]
theorem sc_law : FnScope n_law ["_law_script"] (defScope s_law) := ⟨rfl, rfl, rfl, by decide +kernel, rfl, by decide +kernel, by decide +kernel⟩
theorem ok_law (T : PF g fa fn) : FnAt g 46 (He.ga g.c.K "law") 1 [] (spP g.c 1 f_law) := by
  obtain ⟨fd, FF⟩ := T.c.def_ 16 (d := dd_law) rfl
  exact fnAtP FF sc_law rfl rfl (fun _ _ _ _ _ _ us hl => match us, hl with | [_], _ => rfl) fun e cg tk hr =>
    have cn := cg.cn (hr.mono (by decide))
    pssa_cons (psa_set cn (i := 1) (pea_callB (call_max2C cn) cr_max2A (T.free 9) (by decide +kernel) (paa_cons (pea_int) (paa_cons (pea_call ok_P cg tk (T.glo 17) (ok__law_many T) (hr.mono (by decide)) (paa_cons (pea_var 0) (paa_cons (pea_int) (paa_cons (pea_int) (paa_nil))))) (paa_nil)))))
      (pssa_cons (psa_set cn (i := 2) (pea_call ok_I cg tk (T.glo 18) (oki__law_made T) (hr.mono (by decide)) (paa_cons (pea_var 0) (paa_cons (pea_var 1) (paa_nil)))))
      (pssa_cons (psa_set cn (i := 3) (pea_call ok_P cg tk (T.glo 16) (ok__law_worth T) (hr.mono (by decide)) (paa_cons (pea_var 2) (paa_nil))))
      (pssa_cons (psa_setLcE false (i := 4) (own := [("_law_row", 10)]) cn (pea_var 2) (blkOk_by (own := [("_law_row", 10)]) (N := n_law) (sc := defScope s_law) (by decide +kernel)) (by decide) (fun _ _ _ _ _ => pga_nameC (i := 10) cn.blk) (fun _ _ _ _ _ => ptsa_nil) (fun _ _ _ _ _ => pea_callTy call_tuple_of cr_tupleA (T.free 19) (by decide +kernel) (paa_cons (pea_var 10) (paa_nil))) (sw_true rfl rfl rfl (by decide +kernel)))
      (pssa_cons (psa_if (pta_w (pwa_or (pta_not (pta_val (pea_call ok_P cg tk (T.glo 20) (ok_adds_up T) (hr.mono (by decide)) (paa_cons (pea_var 3) (paa_cons (pea_var 4) (paa_nil)))))) (pwa_or (pta_val (pea_call ok_P cg tk (T.glo 20) (ok_adds_up T) (hr.mono (by decide)) (paa_cons (pea_tup (paa_cons (pea_int) (paa_cons (pea_int) (paa_nil)))) (paa_cons (pea_lst false (paa_nil)) (paa_nil))))) (pwa_or1 (pta_val (pea_call ok_P cg tk (T.glo 20) (ok_adds_up T) (hr.mono (by decide)) (paa_cons (pea_tup (paa_cons (pea_int) (paa_cons (pea_int) (paa_nil)))) (paa_cons (pea_lst false (paa_nil)) (paa_nil))))))))) (pssa_one (psa_ret (pea_bl))) (pssa_nil))
      (pssa_cons (psa_set cn (i := 5) (pea_call ok_P cg tk (T.glo 8) (ok__law_cell_at T) (hr.mono (by decide)) (paa_cons (pea_var 0) (paa_cons (pea_int) (paa_nil)))))
      (pssa_cons (psa_if (pta_val (pea_call ok_P cg tk (T.glo 20) (ok_adds_up T) (hr.mono (by decide)) (paa_cons (pea_call ok_P cg tk (T.glo 15) (okg__law_plus T) (hr.mono (by decide)) (paa_cons (pea_var 3) (paa_cons (pea_call ok_P cg tk (T.glo 12) (okg__law_share T) (hr.mono (by decide)) (paa_cons (pea_ix rfl (pea_lst false (paa_cons (pea_int) (paa_cons (pea_neg (pea_int)) (paa_nil)))) (pea_op op_modN r2_mod (pea_var 5) (pea_int))) (paa_cons (pea_op op_addA (r2_add false) (pea_int) (pea_op op_modN r2_mod (pea_op (op_fdivA cn) r2_fdiv (pea_var 5) (pea_int)) (pea_op op_pow r2_pow (pea_int) (pea_int)))) (paa_nil)))) (paa_nil)))) (paa_cons (pea_var 4) (paa_nil))))) (pssa_one (psa_ret (pea_bl))) (pssa_nil))
      (pssa_cons (psa_expr (pea_call ok_I cg tk (T.glo 21) (oki__law_spoilt T) (hr.mono (by decide)) (paa_cons (pea_var 2) (paa_cons (pea_call ok_P cg tk (T.glo 8) (ok__law_cell_at T) (hr.mono (by decide)) (paa_cons (pea_var 0) (paa_cons (pea_int) (paa_nil)))) (paa_nil)))))
      (pssa_cons (psa_setLcE false (i := 6) (own := [("_law_row", 10)]) cn (pea_var 2) (blkOk_by (own := [("_law_row", 10)]) (N := n_law) (sc := defScope s_law) (by decide +kernel)) (by decide) (fun _ _ _ _ _ => pga_nameC (i := 10) cn.blk) (fun _ _ _ _ _ => ptsa_nil) (fun _ _ _ _ _ => pea_callTy call_tuple_of cr_tupleA (T.free 19) (by decide +kernel) (paa_cons (pea_var 10) (paa_nil))) (sw_true rfl rfl rfl (by decide +kernel)))
      (pssa_cons (psa_set cn (i := 7) (pea_callTy call_list_of (cr_listA false) (T.free 22) (by decide +kernel) (paa_cons (pea_var 6) (paa_nil))))
      (pssa_cons (psa_set cn (i := 8) (pea_call ok_P cg tk (T.glo 20) (ok_adds_up T) (hr.mono (by decide)) (paa_cons (pea_var 3) (paa_cons (pea_var 7) (paa_nil)))))
      (pssa_cons (psa_if (pta_w (pwa_or (pta_not (pta_val (pea_callB call_isi (cr_isi (kit T)) (T.free 24) (by decide +kernel) (paa_cons (pea_var 8) (paa_cons (pea_ty (T.free 23) (by decide +kernel)) (paa_nil)))))) (pwa_or (pta_cmp (op_neC cn) r2_ne (pea_var 8) (pea_call ok_P cg tk (T.glo 25) (ok__law_right T) (hr.mono (by decide)) (paa_cons (pea_var 6) (paa_cons (pea_var 3) (paa_nil))))) (pwa_or1 (pta_cmp (op_neC cn) r2_ne (pea_var 7) (pea_var 6)))))) (pssa_one (psa_ret (pea_bl))) (pssa_nil))
      (pssa_cons (psa_set cn (i := 9) (pea_call ok_P cg tk (T.glo 16) (ok__law_worth T) (hr.mono (by decide)) (paa_cons (pea_var 6) (paa_nil))))
      (pssa_one (psa_ret (pea_and (pea_cmp (op_eqC cn) r2_eq (pea_call ok_P cg tk (T.glo 20) (ok_adds_up T) (hr.mono (by decide)) (paa_cons (pea_var 9) (paa_cons (pea_var 7) (paa_nil)))) (pea_call ok_P cg tk (T.glo 25) (ok__law_right T) (hr.mono (by decide)) (paa_cons (pea_var 6) (paa_cons (pea_var 9) (paa_nil))))) (pea_one (pea_call ok_P cg tk (T.glo 20) (ok_adds_up T) (hr.mono (by decide)) (paa_cons (pea_var 3) (paa_cons (pea_var 4) (paa_nil))))))))))))))))))))

end
abbrev R : PySem.W.OpenRow := PySem.W.OpenLaw.row PySem.Challenge.rw_lidprice_k63_rows_that_add_up
abbrev hk : PySem.W.Hook := He.hookD 6 fa fn
def ob (s : PySem.W.SharedT) : He.AlD := He.obsDG 6 fa fn (HandSHeadRun.getT s)
theorem ob_eq (s : PySem.W.SharedT) : ob s = hk.obs s.abs := He.obsDG_eq (HandSHeadRun.getT_eq s)
def loose : List Str := (["divisor", "share", "whole", "plus", "times", "below", "adds_up", "_law_cell_at", "_law_many", "_law_divisor", "_law_share", "_law_plus", "_law_made", "_law_worth", "_law_right", "_law_spoilt"] : List Str)
theorem run (w : World) : HandSHeadRun.RunEq R (PySem.W.view R.prog [19]) hk ob 4000 loose w := by
  intro os
  kernel_rfl
def ctx (K : PySem.W.Frag) : Ct := ⟨K, fun _ => 0, [], List.nodup_nil, by simp⟩
end Law
section
open PySem PySem.W PySem.Calls PyProof.Rows
theorem Law.holds_of (hden : ∀ ns : List Int, ns.length ≤ 63 → ∃ fr, Law.f_law [.scr ns] = .ok (.bl true) fr) : PySem.Challenge.rw_lidprice_k63_rows_that_add_up.Holds := by
  w_on; o_law
  refine HandSHeadRun.head_any (r := OpenLaw.row PySem.Challenge.rw_lidprice_k63_rows_that_add_up) (q := view (OpenLaw.row PySem.Challenge.rw_lidprice_k63_rows_that_add_up).prog [19]) (H := Law.hk) (ob := Law.ob) (M := 4000) (loose := Law.loose) (d := HandSHeadRun.topDef (OpenLaw.row PySem.Challenge.rw_lidprice_k63_rows_that_add_up).prog 19) (kwd := []) Law.ob_eq
    (by kernel_rfl) (fun s => by kernel_rfl) Law.run (by kernel_rfl) (by kernel_rfl) (by kernel_rfl) (by rfl) (by first | assumption | decide +kernel) (by decide +kernel) ⟨rfl, rfl, rfl, rfl, rfl, by decide +kernel⟩ ?hw ?hc
  case hw => w_witness2
  case hc =>
    refine A.walk_ofS (l := PySem.Challenge.rw_lidprice_k63_rows_that_add_up) (n := 63) (k := 46) (den := Law.f_law) rfl (by decide) (by kernel_rfl) ⟨rfl, by decide, by decide⟩ (by kernel_rfl) rfl hden ?F
    intro w mg fa h Y G hmg0
    obtain ⟨K, KX, c⟩ := Y
    have hmg : mg ("law" : PySem.Str) = some (.ref fa) := by
      have e : (HandSHeadRun.topDef (OpenLaw.row PySem.Challenge.rw_lidprice_k63_rows_that_add_up).prog 19).name = ("law" : PySem.Str) := by kernel_rfl
      rw [← e]
      exact hmg0
    have e := hmg.symm.trans (He.glo_ok KX G (c.fact 26 (f := .glo "law") rfl))
    cases e
    exact ⟨Law.ctx K, KX, fun base no kb nb => Law.ok_law ⟨c, kb, nb⟩⟩
end


theorem PySem.Challenge.cw_lidprice_k63_rows_that_add_up_holds : PySem.Challenge.rw_lidprice_k63_rows_that_add_up.Holds := by
  exact Law.holds_of fun ns hl => by first | exact Law.den ns | exact Law.den ns hl
