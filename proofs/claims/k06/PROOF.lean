import PyProof.Rows.All
import Wide.All
import OpenK.AllK
import Wide.FinOn
import HandS.ForMost
import HandS.Wide
import HandS.WideBits
import HandS.Gcd
import HandS.Deep
import HandS.IsInst
import PySem.Challenge.RW_doubtbook_k06_fractions
set_option Elab.async false
set_option linter.all false
set_option maxRecDepth 100000
/-! DL: readings over deep values (D): tuples and frozen lists are plain data, the heap holds only what is still being changed. -/
namespace DL
open PySem PySem.Spec PyProof.Rows L2

inductive D where
  | non
  | bl (b : Bool)
  | int (i : Int)
  | str (x : Str)
  | tup (xs : List D)
  | lst (xs : List D)
  | dct (kvs : List (D × D))
  | ref (a : Addr)
  | ty (n : String)
instance : Inhabited D := ⟨.non⟩
/-- what a mutable address holds -/
inductive DO where
  | lst (xs : List D)
  | dct (kvs : List (D × D))
abbrev SL := L2.St
abbrev DSt := List (Option D)
abbrev DM := Addr → Option DO
def mput (M : DM) (a : Addr) (o : DO) : DM := fun b => if b = a then some o else M b
def mdel (M : DM) (a : Addr) : DM := fun b => if b = a then none else M b
theorem mput_same {M : DM} {a : Addr} {o : DO} : mput M a o a = some o := by
  unfold mput
  simp
theorem mput_ne {M : DM} {a b : Addr} {o : DO} (h : b ≠ a) : mput M a o b = M b := by
  unfold mput
  simp [h]
theorem mput_mput {M : DM} {a : Addr} {o o' : DO} : mput (mput M a o) a o' = mput M a o' := by
  funext b
  unfold mput
  split <;> rfl
theorem mdel_mput {M : DM} {a : Addr} {o : DO} (h : M a = none) : mdel (mput M a o) a = M := by
  funext b
  unfold mdel mput
  split
  · next e => rw [e, h]
  · rfl
theorem mput_comm {M : DM} {a b : Addr} {o o' : DO} (h : a ≠ b) : mput (mput M a o) b o' = mput (mput M b o') a o := by
  funext c
  unfold mput
  by_cases h1 : c = a
  · have h2 : ¬ c = b := fun z => h (h1.symm.trans z)
    simp only [if_pos h1, if_neg h2]
  · simp only [if_neg h1]
/-- M is part of N -/
def MLe (M N : DM) : Prop := ∀ a o, M a = some o → N a = some o
theorem MLe.refl (M : DM) : MLe M M := fun _ _ h => h
theorem MLe.put {M N : DM} {a : Addr} {o : DO} (l : MLe M N) (h : M a = none) : MLe M (mput N a o) := fun b p e => by
  have : b ≠ a := fun z => by
    rw [z, h] at e
    cases e
  rw [mput_ne this]
  exact l b p e
theorem MLe.both {M N : DM} {a : Addr} {o : DO} (l : MLe M N) : MLe (mput M a o) (mput N a o) := fun b p e => by
  by_cases h : b = a
  · subst h
    rw [mput_same] at e ⊢
    exact e
  · rw [mput_ne h] at e ⊢
    exact l b p e

/-- a list that nobody will change -/
def FrzL (K : PySem.W.Frag) (H : Hp) (a : Addr) (vs : List V) : Prop :=
  (∃ o, H a = some (.frz o (.lst vs))) ∨
  ∃ (o : Obj) (its : Array Value) (n : Nat), K.lookup a = some o ∧ o.cls = .type "list" ∧ o.dict = none ∧
    o.data = .seq its n ∧ its.size ≤ sizeLine ∧ Vals vs its.toList
theorem FrzL.seq {K : PySem.W.Frag} {H : Hp} {a : Addr} {vs : List V} (h : FrzL K H a vs) : SqL K H a vs := by
  rcases h with ⟨o, h⟩ | h
  · exact .inl (.inr ⟨o, h⟩)
  · exact .inr h

/-- tuples and frozen things stay -/
structure Grow (H H' : Hp) : Prop where
  tups : ∀ b xs, H b = some (.tup xs) → H' b = some (.tup xs)
  frzs : ∀ b o u, H b = some (.frz o u) → H' b = some (.frz o u)
theorem Grow.refl (H : Hp) : Grow H H := ⟨fun _ _ h => h, fun _ _ _ h => h⟩
theorem Grow.trans {H H1 H2 : Hp} (a : Grow H H1) (b : Grow H1 H2) : Grow H H2 :=
  ⟨fun c xs h => b.tups c xs (a.tups c xs h), fun c o u h => b.frzs c o u (a.frzs c o u h)⟩
theorem Grow.new {H : Hp} {p : Addr} {o : HO} (h : H p = none) : Grow H (upd H p o) :=
  ⟨fun b xs e => by rw [upd_ne (ne_of_none e h)]; exact e, fun b q u e => by rw [upd_ne (ne_of_none e h)]; exact e⟩
theorem Grow.put {H : Hp} {p : Addr} {vs : List V} {o : HO} (h : H p = some (.lst vs)) : Grow H (upd H p o) :=
  ⟨fun b xs e => by rw [upd_ne (ne_of e h (by intro z; cases z))]; exact e,
   fun b q u e => by rw [upd_ne (ne_of e h (by intro z; cases z))]; exact e⟩
theorem FrzL.grow {K : PySem.W.Frag} {H H' : Hp} {a : Addr} {vs : List V} (h : FrzL K H a vs) (g : Grow H H') : FrzL K H' a vs := by
  rcases h with ⟨o, h⟩ | h
  · exact .inl ⟨o, g.frzs _ _ _ h⟩
  · exact .inr h
theorem sqT_grow {K : PySem.W.Frag} {H H' : Hp} {a : Addr} {vs : List V} (h : SqT K H a vs) (g : Grow H H') : SqT K H' a vs := by
  rcases h with (h | ⟨o, h⟩) | h
  · exact .inl (.inl (g.tups _ _ h))
  · exact .inl (.inr ⟨o, g.frzs _ _ _ h⟩)
  · exact .inr h

mutual
inductive Rep (K : PySem.W.Frag) (H : Hp) : D → V → Prop
  | non : Rep K H .non .non
  | bl (b : Bool) : Rep K H (.bl b) (.bl b)
  | int (i : Int) : Rep K H (.int i) (.int i)
  | str (x : Str) : Rep K H (.str x) (.str x)
  | tup {xs : List D} {a : Addr} {vs : List V} : SqT K H a vs → vs.length ≤ sizeLine → RepL K H xs vs → Rep K H (.tup xs) (.ref a)
  | lst {xs : List D} {a : Addr} {vs : List V} : FrzL K H a vs → vs.length ≤ sizeLine → RepL K H xs vs → Rep K H (.lst xs) (.ref a)
  | ref (a : Addr) : Rep K H (.ref a) (.ref a)
  | ty (n : String) : Rep K H (.ty n) (.ty n)
inductive RepL (K : PySem.W.Frag) (H : Hp) : List D → List V → Prop
  | nil : RepL K H [] []
  | cons {d : D} {v : V} {ds : List D} {vs : List V} : Rep K H d v → RepL K H ds vs → RepL K H (d :: ds) (v :: vs)
end
section
variable {K : PySem.W.Frag} {H H' : Hp}
mutual
theorem Rep.grow {d : D} {v : V} (r : Rep K H d v) (g : Grow H H') : Rep K H' d v := match r with
  | .non => .non
  | .bl b => .bl b
  | .int i => .int i
  | .str x => .str x
  | .tup h z l => .tup (sqT_grow h g) z (l.grow g)
  | .lst h z l => .lst (h.grow g) z (l.grow g)
  | .ref a => .ref a
  | .ty n => .ty n
theorem RepL.grow {ds : List D} {vs : List V} (r : RepL K H ds vs) (g : Grow H H') : RepL K H' ds vs := match r with
  | .nil => .nil
  | .cons h l => .cons (h.grow g) (l.grow g)
end
theorem RepL.length : ∀ {ds : List D} {vs : List V}, RepL K H ds vs → ds.length = vs.length
  | _, _, .nil => rfl
  | _, _, .cons _ l => congrArg (· + 1) l.length
theorem RepL.get : ∀ {ds : List D} {vs : List V} {i : Nat} {d : D}, RepL K H ds vs → ds[i]? = some d → ∃ v, vs[i]? = some v ∧ Rep K H d v
  | _, _, _, _, .nil, e => by simp at e
  | _, _, 0, _, .cons h _, e => by
    simp at e
    subst e
    exact ⟨_, rfl, h⟩
  | _, _, i + 1, d, .cons _ l, e => by
    obtain ⟨v, h1, h2⟩ := RepL.get (i := i) (d := d) l (by simpa using e)
    exact ⟨v, by simpa using h1, h2⟩
theorem RepL.get' : ∀ {ds : List D} {vs : List V} {i : Nat} {v : V}, RepL K H ds vs → vs[i]? = some v → ∃ d, ds[i]? = some d ∧ Rep K H d v
  | _, _, _, _, .nil, e => by simp at e
  | _, _, 0, _, .cons h _, e => by
    simp at e
    subst e
    exact ⟨_, rfl, h⟩
  | _, _, i + 1, d, .cons _ l, e => by
    obtain ⟨v, h1, h2⟩ := RepL.get' (i := i) (v := d) l (by simpa using e)
    exact ⟨v, by simpa using h1, h2⟩
theorem RepL.append : ∀ {ds es : List D} {vs ws : List V}, RepL K H ds vs → RepL K H es ws → RepL K H (ds ++ es) (vs ++ ws)
  | _, _, _, _, .nil, m => m
  | _, _, _, _, .cons h l, m => .cons h (l.append m)
theorem RepL.one {d : D} {v : V} (h : Rep K H d v) : RepL K H [d] [v] := .cons h .nil
theorem RepL.take : ∀ (n : Nat) {ds : List D} {vs : List V}, RepL K H ds vs → RepL K H (ds.take n) (vs.take n)
  | 0, _, _, _ => .nil
  | _ + 1, _, _, .nil => .nil
  | n + 1, _, _, .cons h l => .cons h (RepL.take n l)
theorem RepL.drop : ∀ (n : Nat) {ds : List D} {vs : List V}, RepL K H ds vs → RepL K H (ds.drop n) (vs.drop n)
  | 0, _, _, r => r
  | _ + 1, _, _, .nil => .nil
  | n + 1, _, _, .cons _ l => RepL.drop n l
theorem RepL.reverse : ∀ {ds : List D} {vs : List V}, RepL K H ds vs → RepL K H ds.reverse vs.reverse
  | _, _, .nil => .nil
  | _, _, .cons h l => by
    rw [List.reverse_cons, List.reverse_cons]
    exact l.reverse.append (.one h)
theorem RepL.dropLast {ds : List D} {vs : List V} (r : RepL K H ds vs) : RepL K H ds.dropLast vs.dropLast := by
  rw [List.dropLast_eq_take, List.dropLast_eq_take, r.length]
  exact r.take _
theorem RepL.set : ∀ {ds : List D} {vs : List V} (i : Nat) {d : D} {v : V}, RepL K H ds vs → Rep K H d v → RepL K H (ds.set i d) (vs.set i v)
  | _, _, _, _, _, .nil, _ => .nil
  | _, _, 0, _, _, .cons _ l, r => .cons r l
  | _, _, i + 1, _, _, .cons h l, r => .cons h (RepL.set i l r)
theorem RepL.eraseIdx : ∀ {ds : List D} {vs : List V} (i : Nat), RepL K H ds vs → RepL K H (ds.eraseIdx i) (vs.eraseIdx i)
  | _, _, _, .nil => .nil
  | _, _, 0, .cons _ l => l
  | _, _, i + 1, .cons h l => .cons h (RepL.eraseIdx i l)
theorem repL_ints : ∀ ns : List Int, RepL K H (ns.map D.int) (ns.map V.int)
  | [] => .nil
  | n :: ns => .cons (.int n) (repL_ints ns)
end

def RepO (K : PySem.W.Frag) (H : Hp) (a : Addr) : DO → Prop
  | .lst ds => ∃ vs, H a = some (.lst vs) ∧ vs.length ≤ sizeLine ∧ RepL K H ds vs
  | .dct _ => False
/-- the mutable part is borne -/
def RM (K : PySem.W.Frag) (H : Hp) (M : DM) : Prop := ∀ a o, M a = some o → RepO K H a o
structure R (K : PySem.W.Frag) (m : DSt) (M : DM) (σ : SL) (H : Hp) : Prop where
  len : m.length = σ.length
  slot : ∀ (i : Nat) (d : D), m[i]? = some (some d) → ∃ v, σ[i]? = some (some v) ∧ Rep K H d v
  mem : RM K H M
section
variable {K : PySem.W.Frag} {H H' : Hp} {M N : DM} {m : DSt} {σ : SL} {a : Addr}
theorem RM.le (h : RM K H N) (l : MLe M N) : RM K H M := fun a o e => h a o (l a o e)
theorem RepO.some {o : DO} (h : RepO K H a o) : H a ≠ none := by
  cases o with
  | lst ds =>
    obtain ⟨vs, e, _, _⟩ := h
    rw [e]
    intro z
    cases z
  | dct _ => exact h.elim
theorem RM.free (h : RM K H M) (e : H a = none) : M a = none := by
  cases q : M a with
  | none => rfl
  | some o => exact absurd e (h a o q).some
theorem RM.lst (h : RM K H M) {ds : List D} (e : M a = some (.lst ds)) : ∃ vs, H a = some (.lst vs) ∧ vs.length ≤ sizeLine ∧ RepL K H ds vs := h a _ e
theorem R.grow (r : R K m M σ H) (g : Grow H H') (h : RM K H' N) : R K m N σ H' :=
  ⟨r.len, fun i d e => let ⟨v, h1, h2⟩ := r.slot i d e; ⟨v, h1, h2.grow g⟩, h⟩
/-- an untracked thing has come -/
theorem RM.new {p : Addr} {o : HO} (h : RM K H M) (hp : H p = none) : RM K (upd H p o) M := fun a q e => by
  have ha := h a q e
  have ne : a ≠ p := fun z => ha.some (z ▸ hp)
  cases q with
  | lst ds =>
    obtain ⟨vs, e1, z, l⟩ := ha
    exact ⟨vs, by rw [upd_ne ne]; exact e1, z, l.grow (.new hp)⟩
  | dct _ => exact ha.elim
theorem RM.newLst {p : Addr} {ds : List D} {vs : List V} (h : RM K H M) (hp : H p = none) (hz : vs.length ≤ sizeLine) (l : RepL K H ds vs) : RM K (upd H p (.lst vs)) (mput M p (.lst ds)) := fun a q e => by
  by_cases ha : a = p
  · subst ha
    rw [mput_same] at e
    cases e
    exact ⟨vs, upd_same, hz, l.grow (.new hp)⟩
  · rw [mput_ne ha] at e
    exact h.new hp a q e
theorem RM.putLst {p : Addr} {ds : List D} {vs vs0 : List V} (h : RM K H M) (hp : H p = some (.lst vs0)) (hz : vs.length ≤ sizeLine) (l : RepL K H ds vs) : RM K (upd H p (.lst vs)) (mput M p (.lst ds)) := fun a q e => by
  by_cases ha : a = p
  · subst ha
    rw [mput_same] at e
    cases e
    exact ⟨vs, upd_same, hz, l.grow (.put hp)⟩
  · rw [mput_ne ha] at e
    have z := h a q e
    cases q with
    | lst es =>
      obtain ⟨ws, e1, y, k⟩ := z
      exact ⟨ws, by rw [upd_ne ha]; exact e1, y, k.grow (.put hp)⟩
    | dct _ => exact z.elim
/-- a list is frozen: it leaves the mutable part -/
theorem RM.frz {p : Addr} {vs : List V} {o : Obj} (h : RM K H M) (hp : H p = some (.lst vs)) : RM K (upd H p (.frz o (.lst vs))) (mdel M p) := fun a q e => by
  have ha : a ≠ p := fun z => by
    subst z
    unfold mdel at e
    simp at e
  have e' : M a = some q := by
    unfold mdel at e
    rw [if_neg ha] at e
    exact e
  have z := h a q e'
  cases q with
  | lst es =>
    obtain ⟨ws, e1, y, k⟩ := z
    exact ⟨ws, by rw [upd_ne ha]; exact e1, y, k.grow (.put hp)⟩
  | dct _ => exact z.elim
theorem R.set {i : Nat} {d : D} {v : V} (r : R K m M σ H) (h : Rep K H d v) : R K (m.set i (some d)) M (σ.set i (some v)) H := by
  refine ⟨by rw [List.length_set, List.length_set]; exact r.len, fun j e q => ?_, r.mem⟩
  by_cases hj : i = j
  · subst hj
    by_cases hi : i < m.length
    · rw [List.getElem?_set_self hi] at q
      cases q
      exact ⟨v, List.getElem?_set_self (by rw [← r.len]; exact hi), h⟩
    · rw [List.getElem?_eq_none (by rw [List.length_set]; omega)] at q
      cases q
  · rw [List.getElem?_set_ne hj] at q ⊢
    exact r.slot j e q
end

/-! ### the judgements -/
abbrev DVK := D → DM → Prop
abbrev DTE := DSt → DM → DVK → Prop
abbrev DTT := DSt → DM → (Bool → DM → Prop) → Prop
abbrev DTA := DSt → DM → (List D → DM → Prop) → Prop
structure DEnds where
  nx : DSt → DM → Prop
  rt : DVK
  bk : DSt → DM → Prop := fun _ _ => False
  ct : DSt → DM → Prop := fun _ _ => False
abbrev DTS := DEnds → DSt → DM → Prop
abbrev DR2 := D → D → DM → DVK → Prop
def upE (K : PySem.W.Frag) (t : DTE) : TE := fun σ H Q => ∃ m M Q', R K m M σ H ∧ t m M Q' ∧
  ∀ d v M' H', Grow H H' → Rep K H' d v → RM K H' M' → Q' d M' → Q v H'
def upT (K : PySem.W.Frag) (t : DTT) : TT := fun σ H Q => ∃ m M Q', R K m M σ H ∧ t m M Q' ∧
  ∀ b M' H', Grow H H' → RM K H' M' → Q' b M' → Q b H'
def upA (K : PySem.W.Frag) (t : DTA) : TA := fun σ H Q => ∃ m M Q', R K m M σ H ∧ t m M Q' ∧
  ∀ ds vs M' H', Grow H H' → RepL K H' ds vs → RM K H' M' → Q' ds M' → Q vs H'
structure EndsOk (K : PySem.W.Frag) (H : Hp) (D' : DEnds) (D : Ends) : Prop where
  nx : ∀ m M σ H', Grow H H' → R K m M σ H' → D'.nx m M → D.nx σ H'
  bk : ∀ m M σ H', Grow H H' → R K m M σ H' → D'.bk m M → D.bk σ H'
  ct : ∀ m M σ H', Grow H H' → R K m M σ H' → D'.ct m M → D.ct σ H'
  rt : ∀ d v M H', Grow H H' → Rep K H' d v → RM K H' M → D'.rt d M → D.rt v H'
def upS (K : PySem.W.Frag) (t : DTS) : TS := fun D σ H => ∃ m M D', R K m M σ H ∧ t D' m M ∧ EndsOk K H D' D
def upR2 (K : PySem.W.Frag) (r : DR2) : R2 := fun x y H Q => ∃ d e M Q', Rep K H d x ∧ Rep K H e y ∧ RM K H M ∧ r d e M Q' ∧
  ∀ z v M' H', Grow H H' → Rep K H' z v → RM K H' M' → Q' z M' → Q v H'
theorem EndsOk.grow {K : PySem.W.Frag} {H H' : Hp} {D' : DEnds} {D : Ends} (h : EndsOk K H D' D) (g : Grow H H') : EndsOk K H' D' D :=
  ⟨fun m M σ H2 g2 => h.nx m M σ H2 (g.trans g2), fun m M σ H2 g2 => h.bk m M σ H2 (g.trans g2),
   fun m M σ H2 g2 => h.ct m M σ H2 (g.trans g2), fun d v M H2 g2 => h.rt d v M H2 (g.trans g2)⟩
section
variable {X : Cx} {e a b c : Expr} {es : List Expr} {pos : Pos}
abbrev DE (X : Cx) (e : Expr) (t : DTE) : Prop := PE X e (upE X.K t)
abbrev DT (X : Cx) (e : Expr) (t : DTT) : Prop := PT X e (upT X.K t)
abbrev DA (X : Cx) (es : List Expr) (t : DTA) : Prop := PA X es (upA X.K t)
abbrev DS (X : Cx) (s : Stmt) (t : DTS) : Prop := PS X s (upS X.K t)
abbrev DSs (X : Cx) (s : List Stmt) (t : DTS) : Prop := PSs X s (upS X.K t)
abbrev DOp (X : Cx) (f : Value → Value → Sem Value) (r : DR2) : Prop := OpR X f (upR2 X.K r)
theorem imE {t t' : TE} (h : PE X e t) (i : ∀ σ H Q, t' σ H Q → t σ H Q) : PE X e t' := ⟨fun pins s σ H Q I q => h.run pins s σ H Q I (i σ H Q q)⟩
theorem imT {t t' : TT} (h : PT X e t) (i : ∀ σ H Q, t' σ H Q → t σ H Q) : PT X e t' := ⟨fun pins s σ H Q I q => h.run pins s σ H Q I (i σ H Q q)⟩
theorem imW {t t' : TT} (h : PW X e t) (i : ∀ σ H Q, t' σ H Q → t σ H Q) : PW X e t' := ⟨fun wh pins s σ H Q I q => h.run wh pins s σ H Q I (i σ H Q q)⟩
theorem imA {t t' : TA} (h : PA X es t) (i : ∀ σ H Q, t' σ H Q → t σ H Q) : PA X es t' := ⟨fun p pins s σ H Q I q => h.run p pins s σ H Q I (i σ H Q q)⟩
theorem imS {s : Stmt} {t t' : TS} (h : PS X s t) (i : ∀ D σ H, t' D σ H → t D σ H) : PS X s t' := ⟨fun pins s σ H D I q => h.run pins s σ H D I (i D σ H q)⟩
theorem imSs {s : List Stmt} {t t' : TS} (h : PSs X s t) (i : ∀ D σ H, t' D σ H → t D σ H) : PSs X s t' := ⟨fun pins s σ H D I q => h.run pins s σ H D I (i D σ H q)⟩

/-! ### names, constants -/
def dVar (i : Nat) : DTE := fun m M Q => ∃ d, m[i]? = some (some d) ∧ Q d M
def dC (d : D) : DTE := fun _ M Q => Q d M
theorem d_v (i : Nat) {x : Str} (hN : X.N[i]? = some x := by rfl)
    (hv : Vis X.env.scope x := by first | exact Or.inl rfl | exact Or.inr (Or.inl rfl) | exact Or.inr (Or.inr rfl))
    (hd : (x == ("__debug__" : Str)) = false := by decide) (hc : (x == ("__classdict__" : Str)) = false := by decide) : DE X (.Name x pos) (dVar i) :=
  imE (pe_var hN hv hd hc) fun σ H Q ⟨m, M, Q', r, ⟨d, hd, q⟩, k⟩ => by
    obtain ⟨v, hv, rp⟩ := r.slot i d hd
    exact ⟨v, hv, k d v M H (.refl H) rp r.mem q⟩
theorem d_c {v : V} {d : D} (h : PE X e (tC v)) (hr : ∀ K H, Rep K H d v) : DE X e (dC d) :=
  imE h fun σ H Q ⟨m, M, Q', r, q, k⟩ => k d v M H (.refl H) (hr _ _) r.mem q
theorem d_int {i : Int} {j : Nat} : DE X (.Constant (.int i) j pos) (dC (.int i)) := d_c pe_int fun _ _ => .int i
theorem d_bl {i : Bool} {j : Nat} : DE X (.Constant (.bool i) j pos) (dC (.bl i)) := d_c pe_bl fun _ _ => .bl i
theorem d_non {j : Nat} : DE X (.Constant .none j pos) (dC .non) := d_c pe_non fun _ _ => .non
theorem d_str {x : Str} {j : Nat} : DE X (.Constant (.str x) j pos) (dC (.str x)) := d_c pe_str fun _ _ => .str x

/-! ### operators -/
def dOp (r : DR2) (ta tb : DTE) : DTE := fun m M Q => ta m M fun x M1 => tb m M1 fun y M2 => r x y M2 Q
variable {ta tb tc : DTE} {r : DR2}
theorem up_op {σ : SL} {H : Hp} {Q : VK} (h : upE X.K (dOp r ta tb) σ H Q) : tOp (upR2 X.K r) (upE X.K ta) (upE X.K tb) σ H Q := by
  obtain ⟨m, M, Q', rr, q, k⟩ := h
  refine ⟨m, M, _, rr, q, fun d v M1 H1 g1 r1 m1 q1 => ?_⟩
  refine ⟨m, M1, _, rr.grow g1 m1, q1, fun d2 v2 M2 H2 g2 r2 m2 q2 => ?_⟩
  exact ⟨d, d2, M2, Q', r1.grow g2, r2, m2, q2, fun z v3 M3 H3 g3 => k z v3 M3 H3 ((g1.trans g2).trans g3)⟩
theorem d_op {op : Operator} (ho : DOp X (binaryOp op) r) (ha : DE X a ta) (hb : DE X b tb) : DE X (.BinOp a op b pos) (dOp r ta tb) :=
  imE (pe_op ho ha hb) fun σ H Q h => up_op (σ := σ) (H := H) (Q := Q) h
theorem d_cmp {op : CmpOp} (ho : DOp X (compareOp op) r) (ha : DE X a ta) (hb : DE X b tb) (hm : behindInMarks op b = false) : DE X (.Compare a [op] [b] pos) (dOp r ta tb) :=
  imE (pe_cmpR ho ha hb hm) fun σ H Q h => up_op (σ := σ) (H := H) (Q := Q) h
/-- two ints -/
def dI (C : Int → Int → Prop) (g : Int → Int → D) : DR2 := fun x y M Q => ∃ i j, x = .int i ∧ y = .int j ∧ C i j ∧ Q (g i j) M
theorem dop_I {f : Value → Value → Sem Value} {C : Int → Int → Prop} {g : Int → Int → V} {g' : Int → Int → D} (h : OpR X f (rI C g)) (hg : ∀ i j K H, Rep K H (g' i j) (g i j)) : DOp X f (dI C g') := by
  intro pins s σ H x y v u Q I rx ry q
  obtain ⟨d, e, M, Q', r1, r2, m, ⟨i, j, e1, e2, hc, q⟩, k⟩ := q
  subst e1
  subst e2
  cases r1
  cases r2
  exact h pins s σ H _ _ v u Q I rx ry ⟨i, j, rfl, rfl, hc, k _ _ M H (.refl H) (hg i j _ _) m q⟩
def dI0 (g : Int → Int → D) : DR2 := fun x y M Q => ∃ i j, x = .int i ∧ y = .int j ∧ Q (g i j) M
theorem dop_I0 {f : Value → Value → Sem Value} {g : Int → Int → V} {g' : Int → Int → D} (h : OpR X f (rI0 g)) (hg : ∀ i j K H, Rep K H (g' i j) (g i j)) : DOp X f (dI0 g') := by
  intro pins s σ H x y v u Q I rx ry q
  obtain ⟨d, e, M, Q', r1, r2, m, ⟨i, j, e1, e2, q⟩, k⟩ := q
  subst e1
  subst e2
  cases r1
  cases r2
  exact h pins s σ H _ _ v u Q I rx ry ⟨i, j, rfl, rfl, k _ _ M H (.refl H) (hg i j _ _) m q⟩
theorem DOp.or {f : Value → Value → Sem Value} {r r' : DR2} (h : DOp X f r) (h' : DOp X f r') : DOp X f (fun x y M Q => r x y M Q ∨ r' x y M Q) := by
  intro pins s σ H x y v u Q I rx ry q
  obtain ⟨d, e, M, Q', r1, r2, m, q | q, k⟩ := q
  · exact h pins s σ H _ _ v u Q I rx ry ⟨d, e, M, Q', r1, r2, m, q, k⟩
  · exact h' pins s σ H _ _ v u Q I rx ry ⟨d, e, M, Q', r1, r2, m, q, k⟩
abbrev dAddI : DR2 := dI0 fun i j => .int (i + j)
abbrev dSubI : DR2 := dI0 fun i j => .int (i - j)
/-- one side below 2^64, or both of known sizes -/
def CMulA (i j : Int) : Prop := (-18446744073709551616 < i ∧ i < 18446744073709551616) ∨ (-18446744073709551616 < j ∧ j < 18446744073709551616) ∨ CMulW i j
def CDivA (i j : Int) : Prop := (0 < j ∧ j < 1073741824) ∨ CDivW i j
def CPowA (i j : Int) : Prop := (0 ≤ j ∧ j ≤ 1000000) ∧ -9223372036854775808 < i ∧ i < 9223372036854775808
abbrev dMulI : DR2 := dI CMulA fun i j => .int (i * j)
abbrev dDivI : DR2 := dI CDivA fun i j => .int (i / j)
abbrev dModI : DR2 := dI (fun _ j => 0 < j) fun i j => .int (i % j)
abbrev dPowI : DR2 := dI CPowA fun i j => .int (i ^ j.toNat)
abbrev dLtI : DR2 := dI0 fun i j => .bl (decide (i < j))
abbrev dLeI : DR2 := dI0 fun i j => .bl (decide (i ≤ j))
abbrev dGtI : DR2 := dI0 fun i j => .bl (decide (j < i))
abbrev dGeI : DR2 := dI0 fun i j => .bl (decide (j ≤ i))
theorem o_add : DOp X (binaryOp .Add) dAddI := dop_I0 op_add fun _ _ _ _ => .int _
theorem o_sub : DOp X (binaryOp .Sub) dSubI := dop_I0 op_sub fun _ _ _ _ => .int _
theorem opr_or {f : Value → Value → Sem Value} {C C' C2 : Int → Int → Prop} {g : Int → Int → V} (h : OpR X f (rI C g)) (h' : OpR X f (rI C' g)) (hc : ∀ i j, C2 i j → C i j ∨ C' i j) : OpR X f (rI C2 g) := by
  intro pins s σ H x y v u Q I rx ry ⟨i, j, e1, e2, c, q⟩
  rcases hc i j c with c | c
  · exact h pins s σ H x y v u Q I rx ry ⟨i, j, e1, e2, c, q⟩
  · exact h' pins s σ H x y v u Q I rx ry ⟨i, j, e1, e2, c, q⟩
theorem o_mul : DOp X (binaryOp .Mult) dMulI := dop_I (opr_or op_mul op_mulW fun i j c => by
  rcases c with c | c | c
  · exact .inl (.inl ⟨by omega, by omega⟩)
  · exact .inl (.inr ⟨by omega, by omega⟩)
  · exact .inr c) fun _ _ _ _ => .int _
theorem o_div : DOp X (binaryOp .FloorDiv) dDivI := dop_I (opr_or op_fdiv op_fdivW fun _ _ c => c) fun _ _ _ _ => .int _
theorem o_mod : DOp X (binaryOp .Mod) dModI := dop_I op_mod fun _ _ _ _ => .int _
theorem o_pow : DOp X (binaryOp .Pow) dPowI := dop_I (opr_or op_pow op_pow fun i j c => .inl ⟨c.1.1, c.1.2, by have := c.2; omega⟩) fun _ _ _ _ => .int _
theorem o_lt : DOp X (compareOp .Lt) dLtI := dop_I0 op_lt fun _ _ _ _ => .bl _
theorem o_le : DOp X (compareOp .LtE) dLeI := dop_I0 op_le fun _ _ _ _ => .bl _
theorem o_gt : DOp X (compareOp .Gt) dGtI := dop_I0 op_gt fun _ _ _ _ => .bl _
theorem o_ge : DOp X (compareOp .GtE) dGeI := dop_I0 op_ge fun _ _ _ _ => .bl _
end
end DL
namespace DL
open PySem PySem.Spec PyProof.Rows L2
section
variable {X : Cx} {e a b c : Expr} {es : List Expr} {pos : Pos} {te ta tb tc : DTE} {t : DTA}

/-! ### argument lists, displays -/
def dNil : DTA := fun _ M Q => Q [] M
def dCons (te : DTE) (tr : DTA) : DTA := fun m M Q => te m M fun d M1 => tr m M1 fun ds M2 => Q (d :: ds) M2
theorem da_nil : DA X [] dNil := imA pa_nil fun σ H Q ⟨m, M, Q', r, q, k⟩ => k [] [] M H (.refl H) .nil r.mem q
theorem da_cons (ha : DE X e te) (hr : DA X es t) (hs : starEach (e :: es) X.env = (false, eval e X.env) :: starEach es X.env := by rfl) : DA X (e :: es) (dCons te t) :=
  imA (pa_cons ha hr hs) fun σ H Q ⟨m, M, Q', r, q, k⟩ => by
    refine ⟨m, M, _, r, q, fun d v M1 H1 g1 r1 m1 q1 => ?_⟩
    refine ⟨m, M1, _, r.grow g1 m1, q1, fun ds vs M2 H2 g2 r2 m2 q2 => ?_⟩
    exact k _ _ M2 H2 (g1.trans g2) (.cons (r1.grow g2) r2) m2 q2
def dTup (t : DTA) : DTE := fun m M Q => t m M fun ds M1 => ds.length ≤ sizeLine ∧ Q (.tup ds) M1
/-- a list that will be changed -/
def dLst (t : DTA) : DTE := fun m M Q => t m M fun ds M1 => ds.length ≤ sizeLine ∧ ∀ p, M1 p = none → Q (.ref p) (mput M1 p (.lst ds))
/-- a list that stays as it is -/
def dLstF (t : DTA) : DTE := fun m M Q => t m M fun ds M1 => ds.length ≤ sizeLine ∧ Q (.lst ds) M1
theorem d_tup {x1} (h : DA X es t) : DE X (.Tuple es x1 pos) (dTup t) :=
  imE (pe_tup h) fun σ H Q ⟨m, M, Q', r, q, k⟩ => by
    refine ⟨m, M, _, r, q, fun ds vs M1 H1 g1 r1 m1 ⟨z, q1⟩ => ⟨by rw [← r1.length]; exact z, fun p np => ?_⟩⟩
    exact k _ _ M1 _ (g1.trans (.new np)) (.tup (.of upd_same) (by rw [← r1.length]; exact z) (r1.grow (.new np))) (m1.new np) q1
theorem d_lst (h : DA X es t) : DE X (.List es pos) (dLst t) :=
  imE (pe_lst h) fun σ H Q ⟨m, M, Q', r, q, k⟩ => by
    refine ⟨m, M, _, r, q, fun ds vs M1 H1 g1 r1 m1 ⟨z, q1⟩ => ⟨by rw [← r1.length]; exact z, fun p np => ?_⟩⟩
    exact k _ _ _ _ (g1.trans (.new np)) (.ref p) (m1.newLst np (by rw [← r1.length]; exact z) r1) (q1 p (m1.free np))

/-! ### a list is frozen -/
theorem inv_frz {pins : List (Addr × Obj)} {σ : SL} {H : Hp} {s : Shared} {p : Addr} {vs : List V} (I : Inv X pins σ H s) (h : H p = some (.lst vs)) : ∃ o, Inv X pins σ (upd H p (.frz o (.lst vs))) s := by
  obtain ⟨z, its, n, rv, ho⟩ := I.hok p _ h
  have nt : ∀ b o, H b = some o → (∀ ws, o ≠ .lst ws) → b ≠ p := fun b o e d => ne_of e h (d vs)
  refine ⟨{ cls := Value.type "list", data := Data.seq its.toArray n }, I.step (H' := upd H p (.frz { cls := Value.type "list", data := Data.seq its.toArray n } (.lst vs))) (g' := s.gens) (t' := s.toks) (d' := s.drawn) (h' := s.heap) (ch := []) (fun _ y => nomatch y) (fun _ _ _ _ _ q _ => q) (fun _ q _ _ _ y _ => ⟨q.slots, y⟩) (fun b _ _ _ n => ?_)
    (fun _ q _ y => ⟨q, y⟩) (fun b ws y => ?_) (fun b q u y => ?_) (fun b q y => ⟨#[], ?_⟩) (fun _ y => y) (fun b q y => ?_) I.bare⟩
  · rw [upd_ne (fun w => by rw [w, h] at n; cases n)]
    exact n
  · rw [upd_ne (nt b _ y fun _ w => nomatch w)]
    exact y
  · rw [upd_ne (nt b _ y fun _ w => nomatch w)]
    exact y
  · rw [upd_ne (nt b _ y fun _ w => nomatch w), y]
    simp
  · by_cases e : b = p
    · subst e
      rw [upd_same] at y
      cases y
      exact ⟨ho, z, its, n, rv, ho⟩
    · rw [upd_ne e] at y
      refine (I.hok b q y).stay (fun _ _ _ w => w) (fun c w => ?_) fun c ws w => ?_
      · rw [upd_ne (nt c _ w fun _ w => nomatch w)]
        exact w
      · rw [upd_ne (nt c _ w fun _ w => nomatch w)]
        exact w
def tFz (t : TE) : TE := fun σ H Q => t σ H fun v H1 => ∃ p vs, v = .ref p ∧ H1 p = some (.lst vs) ∧ ∀ o, Q v (upd H1 p (.frz o (.lst vs)))
theorem pe_fz {t : TE} (h : PE X e t) : PE X e (tFz t) := by
  refine ⟨fun pins s σ H Q I q => thn (h.run pins s σ H _ I q) fun u s1 ⟨v, H1, I1, r1, p, vs, e1, e2, q1⟩ => ?_⟩
  obtain ⟨o, I2⟩ := inv_frz I1 e2
  exact ⟨v, _, I2, r1, q1 o⟩
/-- the list that comes is frozen: it leaves the mutable part -/
def dFz (t : DTE) : DTE := fun m M Q => t m M fun d M1 => ∃ p ds, d = .ref p ∧ M1 p = some (.lst ds) ∧ Q (.lst ds) (mdel M1 p)
theorem d_fz (h : DE X e te) : DE X e (dFz te) :=
  imE (pe_fz h) fun σ H Q ⟨m, M, Q', r, q, k⟩ => by
    refine ⟨m, M, _, r, q, fun d v M1 H1 g1 r1 m1 ⟨p, ds, e1, e2, q1⟩ => ?_⟩
    subst e1
    cases r1
    obtain ⟨vs, h1, z, l⟩ := m1.lst e2
    refine ⟨p, vs, rfl, h1, fun o => k _ _ _ _ (g1.trans (.put h1)) (.lst (.inl ⟨o, upd_same⟩) z (l.grow (.put h1))) (m1.frz h1) q1⟩
theorem d_lstF (h : DA X es t) : DE X (.List es pos) (dLstF t) :=
  imE (pe_fz (pe_lst h)) fun σ H Q ⟨m, M, Q', r, q, k⟩ => by
    refine ⟨m, M, _, r, q, fun ds vs M1 H1 g1 r1 m1 ⟨z, q1⟩ => ⟨by rw [← r1.length]; exact z, fun p np => ⟨p, vs, rfl, upd_same, fun o => ?_⟩⟩⟩
    rw [upd_upd]
    exact k _ _ _ _ (g1.trans (.new np)) (.lst (.inl ⟨o, upd_same⟩) (by rw [← r1.length]; exact z) (r1.grow (.new np))) (m1.new np) q1

/-! ### tests -/
def dTst (t : DTE) : DTT := fun m M Q => t m M fun d M1 => ∃ k, d = .bl k ∧ Q k M1
theorem up_tst {σ : SL} {H : Hp} {Q : Bool → Hp → Prop} (h : upT X.K (dTst te) σ H Q) : tTest (upE X.K te) σ H Q := by
  obtain ⟨m, M, Q', r, q, k⟩ := h
  refine ⟨m, M, _, r, q, fun d v M1 H1 g1 r1 m1 ⟨y, e1, q1⟩ => ?_⟩
  subst e1
  cases r1
  exact ⟨y, rfl, k y M1 H1 g1 m1 q1⟩
theorem dt_cmp {op : CmpOp} {r : DR2} (ho : DOp X (compareOp op) r) (ha : DE X a ta) (hb : DE X b tb) (hm : behindInMarks op b = false) : DT X (.Compare a [op] [b] pos) (dTst (dOp r ta tb)) :=
  imT (pt_cmpR ho ha hb hm) fun σ H Q h => by
    obtain ⟨m, M, Q', r, q, k⟩ := h
    refine up_op (σ := σ) (H := H) ⟨m, M, _, r, q, fun d v M1 H1 g1 r1 m1 ⟨y, e1, q1⟩ => ?_⟩
    subst e1
    cases r1
    exact ⟨y, rfl, k y M1 H1 g1 m1 q1⟩
theorem dt_val (h : DE X e te) (he : ∀ whole, isTrue e X.env whole = (do let v ← whole; standAt e.pos; holding [v] (truthy v)) := by intro _; rfl) : DT X e (dTst te) :=
  imT (pt_val h he) fun σ H Q h => up_tst (σ := σ) (H := H) (Q := Q) h
variable {pa pb : DTT} {rest : List Expr}
abbrev DW (X : Cx) (e : Expr) (t : DTT) : Prop := PW X e (upT X.K t)
def dAnd (t u : DTT) : DTT := fun m M Q => t m M fun k M1 => if k = true then u m M1 Q else Q false M1
def dOr (t u : DTT) : DTT := fun m M Q => t m M fun k M1 => if k = true then Q true M1 else u m M1 Q
def dNot (t : DTT) : DTT := fun m M Q => t m M fun k M1 => Q (!k) M1
theorem dw_and1 (ha : DT X a pa) : DW X (.BoolOp .And [a] pos) pa := pw_and1 ha
theorem dw_or1 (ha : DT X a pa) : DW X (.BoolOp .Or [a] pos) pa := pw_or1 ha
theorem dw_and (ha : DT X a pa) (hb : DW X (.BoolOp .And (b :: rest) pos) pb) : DW X (.BoolOp .And (a :: b :: rest) pos) (dAnd pa pb) :=
  imW (pw_and ha hb) fun σ H Q ⟨m, M, Q', r, q, k⟩ => by
    refine ⟨m, M, _, r, q, fun y M1 H1 g1 m1 q1 => ?_⟩
    cases y with
    | true => exact ⟨m, M1, Q', r.grow g1 m1, q1, fun z M2 H2 g2 => k z M2 H2 (g1.trans g2)⟩
    | false => exact k _ M1 H1 g1 m1 q1
theorem dw_or (ha : DT X a pa) (hb : DW X (.BoolOp .Or (b :: rest) pos) pb) : DW X (.BoolOp .Or (a :: b :: rest) pos) (dOr pa pb) :=
  imW (pw_or ha hb) fun σ H Q ⟨m, M, Q', r, q, k⟩ => by
    refine ⟨m, M, _, r, q, fun y M1 H1 g1 m1 q1 => ?_⟩
    cases y with
    | false => exact ⟨m, M1, Q', r.grow g1 m1, q1, fun z M2 H2 g2 => k z M2 H2 (g1.trans g2)⟩
    | true => exact k _ M1 H1 g1 m1 q1
theorem dt_w (h : DW X e pa) : DT X e pa := PW.pt h
theorem dt_not (ha : DT X a pa) : DT X (.UnaryOp .Not a pos) (dNot pa) :=
  imT (pt_not ha) fun σ H Q ⟨m, M, Q', r, q, k⟩ => ⟨m, M, _, r, q, fun y M1 H1 g1 m1 q1 => k _ M1 H1 g1 m1 q1⟩
/-- .. as values -/
def dAndV (t u : DTE) : DTE := fun m M Q => t m M fun d M1 => ∃ k, d = .bl k ∧ if k = true then u m M1 Q else Q (.bl false) M1
def dOrV (t u : DTE) : DTE := fun m M Q => t m M fun d M1 => ∃ k, d = .bl k ∧ if k = true then Q (.bl true) M1 else u m M1 Q
def dNotV (t : DTE) : DTE := fun m M Q => t m M fun d M1 => ∃ k, d = .bl k ∧ Q (.bl (!k)) M1
theorem d_one {op : BoolOp} (h : DE X a ta) : DE X (.BoolOp op [a] pos) ta := pe_one h
theorem d_and (ha : DE X a ta) (hb : DE X (.BoolOp .And (b :: rest) pos) tb) : DE X (.BoolOp .And (a :: b :: rest) pos) (dAndV ta tb) :=
  imE (pe_and ha hb) fun σ H Q ⟨m, M, Q', r, q, k⟩ => by
    refine ⟨m, M, _, r, q, fun d v M1 H1 g1 r1 m1 ⟨y, e1, q1⟩ => ?_⟩
    subst e1
    cases r1
    refine ⟨y, rfl, ?_⟩
    cases y with
    | true => exact ⟨m, M1, Q', r.grow g1 m1, q1, fun z w M2 H2 g2 => k z w M2 H2 (g1.trans g2)⟩
    | false => exact k _ _ M1 H1 g1 (.bl _) m1 q1
theorem d_or (ha : DE X a ta) (hb : DE X (.BoolOp .Or (b :: rest) pos) tb) : DE X (.BoolOp .Or (a :: b :: rest) pos) (dOrV ta tb) :=
  imE (pe_or ha hb) fun σ H Q ⟨m, M, Q', r, q, k⟩ => by
    refine ⟨m, M, _, r, q, fun d v M1 H1 g1 r1 m1 ⟨y, e1, q1⟩ => ?_⟩
    subst e1
    cases r1
    refine ⟨y, rfl, ?_⟩
    cases y with
    | false => exact ⟨m, M1, Q', r.grow g1 m1, q1, fun z w M2 H2 g2 => k z w M2 H2 (g1.trans g2)⟩
    | true => exact k _ _ M1 H1 g1 (.bl _) m1 q1
theorem d_not (ha : DE X a ta) : DE X (.UnaryOp .Not a pos) (dNotV ta) :=
  imE (pe_not ha) fun σ H Q ⟨m, M, Q', r, q, k⟩ => by
    refine ⟨m, M, _, r, q, fun d v M1 H1 g1 r1 m1 ⟨y, e1, q1⟩ => ?_⟩
    subst e1
    cases r1
    exact ⟨y, rfl, k _ _ M1 H1 g1 (.bl _) m1 q1⟩
def dIfE (t : DTT) (u v : DTE) : DTE := fun m M Q => t m M fun k M1 => if k = true then u m M1 Q else v m M1 Q
theorem d_ifE (hc : DT X c pa) (ha : DE X a ta) (hb : DE X b tb) : DE X (.IfExp c a b pos) (dIfE pa ta tb) :=
  imE (pe_ifExp hc ha hb) fun σ H Q ⟨m, M, Q', r, q, k⟩ => by
    refine ⟨m, M, _, r, q, fun y M1 H1 g1 m1 q1 => ?_⟩
    cases y with
    | true => exact ⟨m, M1, Q', r.grow g1 m1, q1, fun z w M2 H2 g2 => k z w M2 H2 (g1.trans g2)⟩
    | false => exact ⟨m, M1, Q', r.grow g1 m1, q1, fun z w M2 H2 g2 => k z w M2 H2 (g1.trans g2)⟩
end

/-! ### statements -/
section
variable {X : Cx} {e : Expr} {pos : Pos} {st : Stmt} {rest : List Stmt} {t u : DTS} {te : DTE}
def dNext : DTS := fun D m M => D.nx m M
def dSeq (t u : DTS) : DTS := fun D m M => t { D with nx := u D } m M
theorem ds_nil : DSs X [] dNext := imSs pss_nil fun D σ H ⟨m, M, D', r, q, k⟩ => k.nx m M σ H (.refl H) r q
theorem ds_cons (h1 : DS X st t) (h2 : DSs X rest u) : DSs X (st :: rest) (dSeq t u) :=
  imSs (pss_cons h1 h2) fun D σ H ⟨m, M, D', r, q, k⟩ => by
    refine ⟨m, M, { D' with nx := u D' }, r, q, ⟨fun m1 M1 σ1 H1 g1 r1 q1 => ?_, k.bk, k.ct, k.rt⟩⟩
    exact ⟨m1, M1, D', r1, q1, k.grow g1⟩
theorem ds_one (h1 : DS X st t) : DSs X [st] t := pss_one h1
def dBreak : DTS := fun D m M => D.bk m M
def dCont : DTS := fun D m M => D.ct m M
theorem ds_pass : DS X (.Pass pos) dNext := imS ps_pass fun D σ H ⟨m, M, D', r, q, k⟩ => k.nx m M σ H (.refl H) r q
theorem ds_break : DS X (.Break pos) dBreak := imS ps_break fun D σ H ⟨m, M, D', r, q, k⟩ => k.bk m M σ H (.refl H) r q
theorem ds_cont : DS X (.Continue pos) dCont := imS ps_continue fun D σ H ⟨m, M, D', r, q, k⟩ => k.ct m M σ H (.refl H) r q
def dDrop (te : DTE) : DTS := fun D m M => te m M fun _ M1 => D.nx m M1
theorem ds_expr (he : DE X e te) (hs : swapsWith e none pos.line X.env = pure false := by rfl) : DS X (.Expr e pos) (dDrop te) :=
  imS (ps_expr he hs) fun D σ H ⟨m, M, D', r, q, k⟩ => ⟨m, M, _, r, q, fun d v M1 H1 g1 r1 m1 q1 => k.nx m M1 σ H1 g1 (r.grow g1 m1) q1⟩
def dRet (te : DTE) : DTS := fun D m M => te m M D.rt
theorem ds_ret (he : DE X e te) : DS X (.Return (some e) pos) (dRet te) :=
  imS (ps_ret he) fun D σ H ⟨m, M, D', r, q, k⟩ => ⟨m, M, _, r, q, fun d v M1 H1 g1 r1 m1 q1 => k.rt d v M1 H1 g1 r1 m1 q1⟩
def dRetN : DTS := fun D _ M => D.rt .non M
theorem ds_retN : DS X (.Return none pos) dRetN :=
  imS ps_retN fun D σ H ⟨m, M, D', r, q, k⟩ => k.rt _ _ M H (.refl H) .non r.mem q
def dIf (p : DTT) (t u : DTS) : DTS := fun D m M => p m M fun k M1 => if k = true then t D m M1 else u D m M1
theorem ds_if {c : Expr} {x y : List Stmt} {p : DTT} (hc : DT X c p) (ha : DSs X x t) (hb : DSs X y u) : DS X (.If c x y pos) (dIf p t u) :=
  imS (ps_if hc ha hb) fun D σ H ⟨m, M, D', r, q, k⟩ => by
    refine ⟨m, M, _, r, q, fun z M1 H1 g1 m1 q1 => ?_⟩
    cases z with
    | true => exact ⟨m, M1, D', r.grow g1 m1, q1, k.grow g1⟩
    | false => exact ⟨m, M1, D', r.grow g1 m1, q1, k.grow g1⟩
def dNever : DTS := fun _ _ _ => False
theorem ds_never : DS X st dNever := ⟨fun _ _ _ _ _ _ ⟨_, _, _, _, q, _⟩ => q.elim⟩
theorem dss_never {sts : List Stmt} : DSs X sts dNever := ⟨fun _ _ _ _ _ _ ⟨_, _, _, _, q, _⟩ => q.elim⟩
/-- slot i's list is frozen ahead of a statement -/
def dFzS (i : Nat) (t : DTS) : DTS := fun D m M => ∃ p ds, m[i]? = some (some (.ref p)) ∧ M p = some (.lst ds) ∧ t D (m.set i (some (.lst ds))) (mdel M p)
theorem ds_fz (i : Nat) (h : DS X st t) : DS X st (dFzS i t) := by
  refine ⟨fun pins s σ H D I ⟨m, M, D', r, ⟨p, ds, e1, e2, q⟩, k⟩ => ?_⟩
  obtain ⟨v, h1, h2⟩ := r.slot i _ e1
  cases h2
  obtain ⟨vs, h3, z, l⟩ := r.mem.lst e2
  obtain ⟨o, I2⟩ := inv_frz I h3
  refine h.run pins s σ _ D I2 ⟨_, _, D', ?_, q, k.grow (.put h3)⟩
  have hi : i < m.length := (List.getElem?_eq_some_iff.mp e1).1
  refine ⟨by rw [List.length_set]; exact r.len, fun j d q1 => ?_, r.mem.frz h3⟩
  by_cases hj : i = j
  · subst hj
    rw [List.getElem?_set_self hi] at q1
    cases q1
    exact ⟨_, h1, .lst (.inl ⟨o, upd_same⟩) z (l.grow (.put h3))⟩
  · rw [List.getElem?_set_ne hj] at q1
    obtain ⟨w, h5, h6⟩ := r.slot j d q1
    exact ⟨w, h5, h6.grow (.put h3)⟩

/-! ### targets: ws are the slots that are written -/
abbrev DTG := D → DSt → DM → (DSt → DM → Prop) → Prop
abbrev DTGs := List D → DSt → DM → (DSt → DM → Prop) → Prop
def Off (ws : List Nat) (σ σ' : SL) : Prop := σ'.length = σ.length ∧ ∀ i, i ∉ ws → σ'[i]? = σ[i]?
def upG (K : PySem.W.Frag) (ws : List Nat) (t : DTG) : TG := fun v σ H Q => ∃ d m M Q', Rep K H d v ∧ R K m M σ H ∧ t d m M Q' ∧
  ∀ m' M' σ' H', Grow H H' → R K m' M' σ' H' → Off ws σ σ' → Q' m' M' → Q σ' H'
def upGs (K : PySem.W.Frag) (ws : List Nat) (t : DTGs) : TGs := fun vs σ H Q => ∃ ds m M Q', RepL K H ds vs ∧ R K m M σ H ∧ t ds m M Q' ∧
  ∀ m' M' σ' H', Grow H H' → R K m' M' σ' H' → Off ws σ σ' → Q' m' M' → Q σ' H'
abbrev DG (X : Cx) (ws : List Nat) (tg : Expr) (t : DTG) : Prop := PG X tg (upG X.K ws t)
abbrev DGs (X : Cx) (ws : List Nat) (tgs : List Expr) (t : DTGs) : Prop := PGs X tgs (upGs X.K ws t)
theorem imG {tg : Expr} {t t' : TG} (h : PG X tg t) (i : ∀ v σ H Q, t' v σ H Q → t v σ H Q) : PG X tg t' := ⟨fun pins s σ H v u Q I r q => h.run pins s σ H v u Q I r (i v σ H Q q)⟩
theorem imGs {tg : List Expr} {t t' : TGs} (h : PGs X tg t) (i : ∀ v σ H Q, t' v σ H Q → t v σ H Q) : PGs X tg t' := ⟨fun pins s σ H v u Q I r q => h.run pins s σ H v u Q I r (i v σ H Q q)⟩
def dgName (i : Nat) : DTG := fun d m M Q => Q (m.set i (some d)) M
theorem Off.refl (ws : List Nat) (σ : SL) : Off ws σ σ := ⟨rfl, fun _ _ => rfl⟩
theorem Off.set {i : Nat} {σ : SL} {v : V} : Off [i] σ (σ.set i (some v)) := ⟨List.length_set, fun j h => by
  have : i ≠ j := fun z => h (by simp [z])
  exact List.getElem?_set_ne this⟩
theorem Off.trans {ws us : List Nat} {σ σ1 σ2 : SL} (h : Off ws σ σ1) (k : Off us σ1 σ2) : Off (ws ++ us) σ σ2 :=
  ⟨k.1.trans h.1, fun i hi => (k.2 i fun z => hi (List.mem_append_right _ z)).trans (h.2 i fun z => hi (List.mem_append_left _ z))⟩
theorem dg_name {i : Nat} {x : Str} (hN : X.N.Nodup) (hi : X.N[i]? = some x) (hx : Loc X.env.scope x) (hf : X.fn x = true ∨ X.env.scope.names.lookup x = some .local := by first | exact .inl rfl | exact .inr rfl | assumption) :
    DG X [i] (.Name x pos) (dgName i) :=
  imG (pg_name hN hi hx hf) fun v σ H Q ⟨d, m, M, Q', rd, r, q, k⟩ => k _ _ _ H (.refl H) (r.set rd) .set q
def dgNil : DTGs := fun ds m M Q => ds = [] ∧ Q m M
def dgCons (t : DTG) (u : DTGs) : DTGs := fun ds m M Q => ∃ d r, ds = d :: r ∧ t d m M fun m1 M1 => u r m1 M1 Q
theorem dgs_nil : DGs X [] [] dgNil := imGs pgs_nil fun v σ H Q ⟨ds, m, M, Q', rd, r, ⟨e, q⟩, k⟩ => by
  subst e
  cases rd
  exact ⟨rfl, k _ _ _ H (.refl H) r (.refl _ _) q⟩
theorem dgs_cons {es : List Expr} {ws us : List Nat} {t : DTG} {u : DTGs} (h1 : DG X ws e t) (h2 : DGs X us es u)
    (hs : (assignEach (e :: es) X.env).map (·.2) = assign e X.env :: (assignEach es X.env).map (·.2) := by rfl) : DGs X (ws ++ us) (e :: es) (dgCons t u) :=
  imGs (pgs_cons h1 h2 hs) fun v σ H Q ⟨ds, m, M, Q', rd, r, ⟨d, dr, e, q⟩, k⟩ => by
    subst e
    cases rd with
    | cons r1 rl =>
      refine ⟨_, _, rfl, _, m, M, _, r1, r, q, fun m1 M1 σ1 H1 g1 rr o1 q1 => ?_⟩
      exact ⟨_, m1, M1, _, rl.grow g1, rr, q1, fun m2 M2 σ2 H2 g2 r2 o2 q2 => k m2 M2 σ2 H2 (g1.trans g2) r2 (o1.trans o2) q2⟩
def dgTup (n : Nat) (t : DTGs) : DTG := fun d m M Q => ∃ ds, d = .tup ds ∧ ds.length = n ∧ t ds m M Q
theorem dg_tup {es : List Expr} {k n : Nat} {ws : List Nat} {t : DTGs} (hc : X.calm = true) (h : DGs X ws es t)
    (hn : (assignEach es X.env).length = n := by rfl) (hst : (assignEach es X.env).findIdx? (·.1) = none := by rfl) : DG X ws (.Tuple es k pos) (dgTup n t) :=
  imG (pg_tup hc h hn hst) fun v σ H Q ⟨d, m, M, Q', rd, r, ⟨ds, e, hl, q⟩, k⟩ => by
    subst e
    cases rd with
    | tup hs _ hl2 => exact ⟨_, _, rfl, hs, by rw [← hl2.length]; exact hl, ds, m, M, Q', hl2, r, q, k⟩
def dAsg (te : DTE) (g : DTG) : DTS := fun D m M => te m M fun d M1 => g d m M1 D.nx
theorem ds_asg {tg : Expr} {ws : List Nat} {g : DTG} (he : DE X e te) (hg : DG X ws tg g) (hs : swapsWithSole [tg] e pos.line X.env = pure false := by rfl) (hw : swappedStores [tg] e X.env = pure none := by rfl)
    (h1 : (assignEach [tg] X.env).map (·.2) = [assign tg X.env] := by rfl) : DS X (.Assign [tg] e pos) (dAsg te g) :=
  imS (ps_asg he hg hs hw h1) fun D σ H ⟨m, M, D', r, q, k⟩ => by
    refine ⟨m, M, _, r, q, fun d v M1 H1 g1 r1 m1 q1 => ?_⟩
    exact ⟨d, m, M1, _, r1, r.grow g1 m1, q1, fun m2 M2 σ2 H2 g2 r2 _ q2 => k.nx m2 M2 σ2 H2 (g1.trans g2) r2 q2⟩
def dSet (i : Nat) (te : DTE) : DTS := fun D m M => te m M fun d M1 => D.nx (m.set i (some d)) M1
theorem ds_set {i : Nat} {x : Str} {pos' : Pos} (hN : X.N.Nodup) (hi : X.N[i]? = some x) (hx : Loc X.env.scope x) (he : DE X e te) (hs : swapsWith e (some (.Name x pos')) pos.line X.env = pure false := by rfl)
    (hf : X.fn x = true ∨ X.env.scope.names.lookup x = some .local := by first | exact .inl rfl | exact .inr rfl | assumption) : DS X (.Assign [.Name x pos'] e pos) (dSet i te) :=
  imS (ps_set hN hi hx he hs hf) fun D σ H ⟨m, M, D', r, q, k⟩ =>
    ⟨m, M, _, r, q, fun d v M1 H1 g1 r1 m1 q1 => k.nx _ M1 _ H1 g1 ((r.grow g1 m1).set r1) q1⟩
end

/-! ### what is walked -/
abbrev Src := List D × Option Addr
abbrev DTI := DSt → DM → (Src → DM → Prop) → Prop
def SrcOk (K : PySem.W.Frag) (src : Src) (H0 H : Hp) : Prop := Grow H0 H ∧ ∀ a, src.2 = some a → ∃ vs, H a = some (.lst vs) ∧ RepL K H src.1 vs
structure Stream (K : PySem.W.Frag) (J : It) (src : Src) (H0 : Hp) : Prop where
  small : src.1.length ≤ sizeLine
  go : ∀ i H, SrcOk K src H0 H → i < src.1.length → J.go i H
  yld : ∀ i H x H', SrcOk K src H0 H → i < src.1.length → J.yld i H x H' → Grow H H' ∧ (∀ M, RM K H M → RM K H' M) ∧ ∃ d, src.1[i]? = some d ∧ Rep K H' d x
  stop : ∀ H, SrcOk K src H0 H → J.stop src.1.length H
def upI (K : PySem.W.Frag) (t : DTI) : TI := fun σ H Rr => ∃ m M Q', R K m M σ H ∧ t m M Q' ∧
  ∀ src M' H' J, Grow H H' → RM K H' M' → Q' src M' → Stream K J src H' → Rr J H'
abbrev DI (X : Cx) (tg iter : Expr) (t : DTI) : Prop := PI X tg iter (upI X.K t)
theorem imI {X : Cx} {tg iter : Expr} {t t' : TI} (h : PI X tg iter t) (i : ∀ σ H Q, t' σ H Q → t σ H Q) : PI X tg iter t' := ⟨fun pins s σ H Q I q => h.run pins s σ H Q I (i σ H Q q)⟩
/-- the walked list is as it was -/
def SrcV (src : Src) (M : DM) : Prop := ∀ a, src.2 = some a → M a = some (.lst src.1)
theorem SrcV.ok {K : PySem.W.Frag} {src : Src} {H0 H : Hp} {M : DM} (h : SrcV src M) (g : Grow H0 H) (r : RM K H M) : SrcOk K src H0 H :=
  ⟨g, fun a e => let ⟨vs, h1, _, h2⟩ := r.lst (h a e); ⟨vs, h1, h2⟩⟩
/-- something is forgotten of the mutable part -/
def fg (P : DSt → DM → Prop) : DSt → DM → Prop := fun m M => ∃ M0, MLe M0 M ∧ P m M0
theorem fg_of {P : DSt → DM → Prop} {m : DSt} {M : DM} (h : P m M) : fg P m M := ⟨M, .refl M, h⟩
def dForGo (src : Src) (g : DTG) (tb : DTS) (Z : DEnds) : List D → DSt → DM → Prop
  | [], m, M => SrcV src M ∧ Z.nx m M
  | d :: ds, m, M => SrcV src M ∧ g d m M fun m1 M1 => tb { Z with nx := fg (dForGo src g tb Z ds), ct := fg (dForGo src g tb Z ds), bk := Z.nx } m1 M1
def dFor (t : DTI) (g : DTG) (tb : DTS) : DTS := fun D m M => t m M fun src M1 => src.1.length ≤ sizeLine → dForGo src g tb D src.1 m M1
section
variable {X : Cx} {tg iter : Expr} {pos : Pos} {t : DTI} {g : DTG} {tb : DTS} {ws : List Nat}
theorem R.le {K : PySem.W.Frag} {m : DSt} {M M0 : DM} {σ : SL} {H : Hp} (r : R K m M σ H) (l : MLe M0 M) : R K m M0 σ H := ⟨r.len, r.slot, r.mem.le l⟩
theorem ds_for {body : List Stmt} (hp : PassesOwn (model X.prog X.w) X.A X.env X.xe) (hc : X.calm = true) (hi : DI X tg iter t) (hg : DG X ws tg g) (hb : DSs X body tb)
    (hs : ∀ x, foldedSetIterable iter X.env x = pure x := by intro _; rfl) : DS X (.For tg iter body [] pos) (dFor t g tb) :=
  imS (ps_for hp hc hi hg hb hs) fun D σ H ⟨m, M, D', r, q, k⟩ => by
    refine ⟨m, M, _, r, q, fun src M1 H1 J g1 m1 q1 st => ?_⟩
    refine ⟨fun i n σ H2 => i + n = src.1.length ∧ Grow H1 H2 ∧ ∃ m M, R X.K m M σ H2 ∧ dForGo src g tb D' (src.1.drop i) m M, ⟨src.1.length, by omega, .refl _, m, M1, r.grow g1 m1, q1 st.small⟩, ?_⟩
    rintro i n σ2 H2 ⟨hl, g2, m2, M2, r2, q2⟩
    by_cases hlt : i < src.1.length
    · have hd : src.1.drop i = src.1[i] :: src.1.drop (i + 1) := List.drop_eq_getElem_cons hlt
      rw [hd] at q2
      obtain ⟨sv, q2⟩ := q2
      have so := sv.ok g2 r2.mem
      refine .inr ⟨st.go i H2 so hlt, fun σ' H' => Grow H1 H' ∧ ∃ m M, R X.K m M σ' H' ∧ dForGo src g tb D' (src.1.drop (i + 1)) m M, fun σ' H' ⟨g3, m3, M3, r3, q3⟩ => ⟨n - 1, by omega, by omega, g3, m3, M3, r3, q3⟩, fun x H' y => ?_⟩
      obtain ⟨g3, k3, d, e3, rd⟩ := st.yld i H2 x H' so hlt y
      have ed : d = src.1[i] := by
        rw [List.getElem?_eq_getElem hlt] at e3
        exact (Option.some.inj e3).symm
      subst ed
      refine ⟨_, m2, M2, _, rd, r2.grow g3 (k3 _ r2.mem), q2, fun m4 M4 σ4 H4 g4 r4 _ q4 => ?_⟩
      have g04 : Grow H1 H4 := (g2.trans g3).trans g4
      refine ⟨m4, M4, _, r4, q4, ⟨fun m5 M5 σ5 H5 g5 r5 ⟨M6, l6, q6⟩ => ⟨g04.trans g5, m5, M6, r5.le l6, q6⟩, fun m5 M5 σ5 H5 g5 r5 q5 => k.nx m5 M5 σ5 H5 ((g1.trans g04).trans g5) r5 q5,
        fun m5 M5 σ5 H5 g5 r5 ⟨M6, l6, q6⟩ => ⟨g04.trans g5, m5, M6, r5.le l6, q6⟩, fun d v M5 H5 g5 => k.rt d v M5 H5 ((g1.trans g04).trans g5)⟩⟩
    · have e : i = src.1.length := by omega
      subst e
      rw [List.drop_length] at q2
      obtain ⟨sv, q2⟩ := q2
      exact .inl ⟨st.stop H2 (sv.ok g2 r2.mem), k.nx m2 M2 σ2 H2 (g1.trans g2) r2 q2⟩
def dWhile (c : DTT) (tb : DTS) : DTS := fun D m M => ∃ W : Nat → DSt → DM → Prop, (∃ n, W n m M) ∧ ∀ n m M, W n m M → c m M fun k M1 =>
  if k = true then tb { D with nx := fg fun m' M' => ∃ n', n' < n ∧ W n' m' M', ct := fg fun m' M' => ∃ n', n' < n ∧ W n' m' M', bk := D.nx } m M1 else D.nx m M1
theorem ds_while {c : Expr} {body : List Stmt} {tc : DTT} (hp : PassesOwn (model X.prog X.w) X.A X.env X.xe) (hc : DT X c tc) (hb : DSs X body tb) : DS X (.While c body [] pos) (dWhile tc tb) :=
  imS (ps_while hp hc hb) fun D σ H ⟨m, M, D', r, ⟨W, ⟨n0, w0⟩, turn⟩, k⟩ => by
    refine ⟨fun n σ H1 => Grow H H1 ∧ ∃ m M, R X.K m M σ H1 ∧ W n m M, ⟨n0, .refl _, m, M, r, w0⟩, ?_⟩
    rintro n σ1 H1 ⟨g1, m1, M1, r1, w1⟩
    refine ⟨m1, M1, _, r1, turn n m1 M1 w1, fun y M2 H2 g2 m2 q2 => ?_⟩
    have r2 := r1.grow g2 m2
    cases y with
    | true =>
      refine ⟨fun σ' H' => ∃ n', n' < n ∧ Grow H H' ∧ ∃ m M, R X.K m M σ' H' ∧ W n' m M, fun σ' H' ⟨n', hn, y⟩ => ⟨n', hn, y⟩, ?_⟩
      refine ⟨m1, M2, _, r2, q2, ⟨fun m5 M5 σ5 H5 g5 r5 ⟨M6, l6, n', hn, q6⟩ => ⟨n', hn, (g1.trans g2).trans g5, m5, M6, r5.le l6, q6⟩, fun m5 M5 σ5 H5 g5 r5 q5 => k.nx m5 M5 σ5 H5 ((g1.trans g2).trans g5) r5 q5,
        fun m5 M5 σ5 H5 g5 r5 ⟨M6, l6, n', hn, q6⟩ => ⟨n', hn, (g1.trans g2).trans g5, m5, M6, r5.le l6, q6⟩, fun d v M5 H5 g5 => k.rt d v M5 H5 ((g1.trans g2).trans g5)⟩⟩
    | false => exact k.nx m1 M2 σ1 H2 (g1.trans g2) r2 q2
end
end DL
namespace DL
open PySem PySem.Spec PyProof.Rows L2

/-! ### items of a value -/
def dItems : D → DM → Option (List D)
  | .tup xs, _ => some xs
  | .lst xs, _ => some xs
  | .ref a, M => match M a with
    | some (.lst xs) => some xs
    | _ => none
  | _, _ => none
def dAt : D → Option Addr
  | .ref a => some a
  | _ => none
@[simp] theorem dItems_tup {xs : List D} {M : DM} : dItems (.tup xs) M = some xs := rfl
@[simp] theorem dItems_lst {xs : List D} {M : DM} : dItems (.lst xs) M = some xs := rfl
theorem dItems_ref {xs : List D} {M : DM} {a : Addr} (h : M a = some (.lst xs)) : dItems (.ref a) M = some xs := by
  simp [dItems, h]
theorem items_of {K : PySem.W.Frag} {H : Hp} {M : DM} {d : D} {v : V} {xs : List D} (r : Rep K H d v) (m : RM K H M) (e : dItems d M = some xs) :
    ∃ a vs, v = .ref a ∧ vs.length ≤ sizeLine ∧ RepL K H xs vs ∧ ((SqL K H a vs ∧ (∀ p, d = .ref p → p = a ∧ H a = some (.lst vs)) ∧ ((∃ p, d = .ref p) ∨ FrzL K H a vs)) ∨ (SqT K H a vs ∧ d = .tup xs)) := by
  cases r with
  | tup h z l =>
    cases e
    exact ⟨_, _, rfl, z, l, .inr ⟨h, rfl⟩⟩
  | lst h z l =>
    cases e
    exact ⟨_, _, rfl, z, l, .inl ⟨h.seq, (fun p q => nomatch q), .inr h⟩⟩
  | ref a =>
    have e' : (match M a with | some (.lst xs) => some xs | _ => none) = some xs := e
    cases q : M a with
    | none => rw [q] at e'; cases e'
    | some o =>
      rw [q] at e'
      cases o with
      | lst ys =>
        cases e'
        obtain ⟨vs, h1, z, l⟩ := m.lst q
        exact ⟨a, vs, rfl, z, l, .inl ⟨.of h1, fun p q => by cases q; exact ⟨rfl, h1⟩, .inl ⟨a, rfl⟩⟩⟩
      | dct _ => cases e'
  | _ => cases e

/-! ### what a list or tuple gives to a loop -/
section
variable {X : Cx} {tg l : Expr} {te : DTE} {pos p : Pos}
def iSeq (K : PySem.W.Frag) (tl : TE) : TI := fun σ H Rr => tl σ H fun x H1 => ∃ a, x = .ref a ∧ (((∃ xs, SqL K H1 a xs) ∧ Rr (Itl K a) H1) ∨ ((∃ xs, SqT K H1 a xs) ∧ Rr (Itt K a) H1))
theorem pi_seq {tl : TE} (hl : PE X l tl) : PI X tg l (iSeq X.K tl) := by
  refine ⟨fun pins s σ H Rr I h => thn (hl.run pins s σ H _ I h) fun v s1 ⟨x, H1, I1, r1, a, e, q⟩ => ?_⟩
  subst e
  cases r1
  have fp : ∀ b ∈ [s1.heap.objs.size], FpOk X pins H1 b := fun b hb => by
    have e : b = s1.heap.objs.size := by simpa using hb
    subst e
    exact I1.fpOk (Nat.le_refl _) (I1.hok.fresh (Nat.le_refl _))
  rcases q with ⟨⟨xs, hq⟩, q⟩ | ⟨⟨xs, hq⟩, q⟩
  · obtain ⟨its, _, pl, _⟩ := I1.list hq
    exact wpAny_pyIter_list pl.isList ⟨_, [s1.heap.objs.size], _, _, H1, rfl, I1.kept (t' := s1.toks) fun b o e => Heap.get?_push_of_some _ e,
      turn_list a _, ⟨_, Heap.get?_push_size _ rfl, rfl, rfl⟩, fp, q⟩
  · obtain ⟨its, _, pt, _⟩ := I1.tuple hq
    exact wpAny_pyIter_tuple (show s1.heap.IsTuple a its.toArray from pt) ⟨_, [s1.heap.objs.size], _, _, H1, rfl, I1.kept (t' := s1.toks) fun b o e => Heap.get?_push_of_some _ e,
      turn_tuple a _, ⟨_, Heap.get?_push_size _ rfl, rfl, rfl⟩, fp, q⟩
theorem sqL_inj {K : PySem.W.Frag} {H : Hp} {a : Addr} {vs : List V} (h : H a = some (.lst vs)) : SqL K H a vs := .of h
def diSeq (te : DTE) : DTI := fun m M Q => te m M fun d M1 => ∃ xs, dItems d M1 = some xs ∧ Q (xs, dAt d) M1
theorem stream_list {K : PySem.W.Frag} {H0 : Hp} {xs : List D} {at' : Option Addr} {a : Addr} {vs : List V} (z : vs.length ≤ sizeLine) (l : RepL K H0 xs vs)
    (hs : ∀ H, SrcOk K (xs, at') H0 H → ∃ ws, SqL K H a ws ∧ RepL K H xs ws) : Stream K (Itl K a) (xs, at') H0 := by
  refine ⟨by rw [show (xs, at').1 = xs from rfl, l.length]; exact z, fun i H ok hi => ?_, fun i H x H' ok hi y => ?_, fun H ok => ?_⟩
  · obtain ⟨ws, h1, h2⟩ := hs H ok
    obtain ⟨w, e, _⟩ := h2.get (List.getElem?_eq_getElem hi)
    exact ⟨ws, w, h1, e⟩
  · obtain ⟨ws, h1, h2⟩ := hs H ok
    obtain ⟨e1, e2⟩ := y
    subst e1
    obtain ⟨d, e3, rd⟩ := h2.get' (e2 ws h1)
    exact ⟨.refl _, fun _ q => q, d, e3, rd⟩
  · obtain ⟨ws, h1, h2⟩ := hs H ok
    exact ⟨ws, h1, by rw [← h2.length]; exact Nat.le_refl _⟩
theorem stream_tup {K : PySem.W.Frag} {H0 : Hp} {xs : List D} {at' : Option Addr} {a : Addr} {vs : List V} (z : vs.length ≤ sizeLine) (l : RepL K H0 xs vs) (h : SqT K H0 a vs) : Stream K (Itt K a) (xs, at') H0 := by
  refine ⟨by rw [show (xs, at').1 = xs from rfl, l.length]; exact z, fun i H ok hi => ?_, fun i H x H' ok hi y => ?_, fun H ok => ?_⟩
  · obtain ⟨w, e, _⟩ := l.get (List.getElem?_eq_getElem hi)
    exact ⟨vs, w, sqT_grow h ok.1, e⟩
  · obtain ⟨e1, e2⟩ := y
    subst e1
    obtain ⟨d, e3, rd⟩ := l.get' (e2 vs (sqT_grow h ok.1))
    exact ⟨.refl _, fun _ q => q, d, e3, rd.grow ok.1⟩
  · exact ⟨vs, sqT_grow h ok.1, by rw [← l.length]; exact Nat.le_refl _⟩
theorem di_seq (h : DE X l te) : DI X tg l (diSeq te) :=
  imI (pi_seq h) fun σ H Q ⟨m, M, Q', r, q, k⟩ => by
    refine ⟨m, M, _, r, q, fun d v M1 H1 g1 r1 m1 ⟨xs, e, q1⟩ => ?_⟩
    obtain ⟨a, vs, rfl, z, l, ⟨h1, h2, h3⟩ | ⟨h1, h2⟩⟩ := items_of r1 m1 e
    · refine ⟨a, rfl, .inl ⟨⟨vs, h1⟩, k _ M1 H1 _ g1 m1 q1 (stream_list z l fun H2 ok => ?_)⟩⟩
      rcases h3 with ⟨p, hp⟩ | h3
      · subst hp
        obtain ⟨e1, _⟩ := h2 p rfl
        subst e1
        obtain ⟨ws, h5, h6⟩ := ok.2 p rfl
        exact ⟨ws, .of h5, h6⟩
      · exact ⟨vs, (h3.grow ok.1).seq, l.grow ok.1⟩
    · exact ⟨a, rfl, .inr ⟨⟨vs, h1⟩, k _ M1 H1 _ g1 m1 q1 (stream_tup z l h1)⟩⟩
def rangeD (lo : Int) (n : Nat) : List D := (List.range n).map fun i => D.int (lo + (i : Nat))
theorem stream_range {K : PySem.W.Frag} {H0 : Hp} {lo : Int} {n : Nat} (hz : n ≤ sizeLine) : Stream K (Itr lo n) (rangeD lo n, none) H0 := by
  have hl : (rangeD lo n).length = n := by simp [rangeD]
  refine ⟨by rw [show (rangeD lo n, (none : Option Addr)).1 = rangeD lo n from rfl, hl]; exact hz, fun i H ok hi => ?_, fun i H x H' ok hi y => ?_, fun H ok => ?_⟩
  · exact (by rw [← hl]; exact hi : i < n)
  · obtain ⟨e1, e2⟩ := y
    subst e1
    subst e2
    have hi' : i < n := by rw [← hl]; exact hi
    exact ⟨.refl _, fun _ q => q, .int (lo + (i : Nat)), by simp [rangeD, hi'], .int _⟩
  · show n ≤ (rangeD lo n).length
    omega
def diRng1 (t : DTA) : DTI := fun m M Q => t m M fun ds M1 => ∃ j : Int, ds = [.int j] ∧ j ≤ 16777216 ∧ -1000000000 ≤ j ∧ Q (rangeD 0 j.toNat, none) M1
def diRng2 (t : DTA) : DTI := fun m M Q => t m M fun ds M1 => ∃ i j : Int, ds = [.int i, .int j] ∧ (-1000000000 ≤ i ∧ i ≤ 1000000000 ∧ -1000000000 ≤ j ∧ j ≤ 1000000000) ∧ j - i ≤ 16777216 ∧ Q (rangeD i (j - i).toNat, none) M1
theorem repL_one {K : PySem.W.Frag} {H : Hp} {d : D} {vs : List V} (h : RepL K H [d] vs) : ∃ v, vs = [v] ∧ Rep K H d v := by
  cases h with
  | cons a b =>
    cases b
    exact ⟨_, rfl, a⟩
theorem repL_two {K : PySem.W.Frag} {H : Hp} {d e : D} {vs : List V} (h : RepL K H [d, e] vs) : ∃ v w, vs = [v, w] ∧ Rep K H d v ∧ Rep K H e w := by
  cases h with
  | cons a b =>
    obtain ⟨w, e, r⟩ := repL_one b
    subst e
    exact ⟨_, w, rfl, a, r⟩
theorem di_range1 {a : Expr} {t : DTA} (hg : Gl X "range") (hm : X.mg "range" = none) (ha : DA X [a] t) (hs : starEach [a] X.env = [(false, eval a X.env)] := by rfl) : DI X tg (.Call (.Name "range" p) [a] [] pos) (diRng1 t) :=
  imI (pi_range1 hg hm ha hs) fun σ H Q ⟨m, M, Q', r, q, k⟩ => by
    refine ⟨m, M, _, r, q, fun ds vs M1 H1 g1 r1 m1 ⟨j, e, h1, h2, q1⟩ => ?_⟩
    subst e
    obtain ⟨v, e, rv⟩ := repL_one r1
    subst e
    cases rv
    have hsl := sizeLine_eq
    exact ⟨j, rfl, by omega, by omega, k _ M1 H1 _ g1 m1 q1 (stream_range (by omega))⟩
theorem di_range2 {a b : Expr} {t : DTA} (hg : Gl X "range") (hm : X.mg "range" = none) (ha : DA X [a, b] t) (hs : starEach [a, b] X.env = [(false, eval a X.env), (false, eval b X.env)] := by rfl) (hs2 : starEach [b] X.env = [(false, eval b X.env)] := by rfl) :
    DI X tg (.Call (.Name "range" p) [a, b] [] pos) (diRng2 t) :=
  imI (pi_range2 hg hm ha hs hs2) fun σ H Q ⟨m, M, Q', r, q, k⟩ => by
    refine ⟨m, M, _, r, q, fun ds vs M1 H1 g1 r1 m1 ⟨i, j, e, ⟨h1, h2, h3, h4⟩, h5, q1⟩ => ?_⟩
    subst e
    obtain ⟨v, w, e, rv, rw'⟩ := repL_two r1
    subst e
    cases rv
    cases rw'
    have hsl := sizeLine_eq
    exact ⟨i, j, rfl, ⟨by omega, by omega, by omega, by omega⟩, k _ M1 H1 _ g1 m1 q1 (stream_range (by omega))⟩
end

/-! ### comprehensions -/
def dwipe (m : DSt) : List Nat → DSt
  | [] => m
  | v :: vs => (dwipe m vs).set v none
theorem wipe_get (σ : SL) : ∀ (vs : List Nat) (i : Nat), (wipe σ vs)[i]? = if i ∈ vs then (if i < σ.length then some none else none) else σ[i]?
  | [], i => by simp [wipe]
  | v :: vs, i => by
    unfold wipe
    by_cases h : v = i
    · subst h
      by_cases hl : v < σ.length
      · rw [List.getElem?_set_self (by rw [wipe_length]; exact hl)]
        simp [hl]
      · rw [List.getElem?_eq_none (by rw [List.length_set, wipe_length]; omega)]
        simp [hl]
    · rw [List.getElem?_set_ne h, wipe_get σ vs i]
      have : ¬ i = v := fun z => h z.symm
      simp [this]
theorem dwipe_len (m : DSt) : ∀ vs : List Nat, (dwipe m vs).length = m.length
  | [] => rfl
  | v :: vs => by
    unfold dwipe
    rw [List.length_set, dwipe_len m vs]
theorem dwipe_some {m : DSt} {i : Nat} {d : D} : ∀ {vs : List Nat}, (dwipe m vs)[i]? = some (some d) → m[i]? = some (some d) ∧ i ∉ vs
  | [], h => ⟨h, by simp⟩
  | v :: vs, h => by
    unfold dwipe at h
    by_cases hv : v = i
    · subst hv
      by_cases hl : v < (dwipe m vs).length
      · rw [List.getElem?_set_self hl] at h
        cases h
      · rw [List.getElem?_eq_none (by rw [List.length_set]; omega)] at h
        cases h
    · rw [List.getElem?_set_ne hv] at h
      obtain ⟨h1, h2⟩ := dwipe_some h
      have : ¬ i = v := fun z => hv z.symm
      exact ⟨h1, by simp [this, h2]⟩
theorem R.wipe {K : PySem.W.Frag} {m : DSt} {M : DM} {σ : SL} {H : Hp} (r : R K m M σ H) (vs : List Nat) : R K (dwipe m vs) M (wipe σ vs) H := by
  refine ⟨by rw [dwipe_len, wipe_length]; exact r.len, fun i d e => ?_, r.mem⟩
  obtain ⟨h1, h2⟩ := dwipe_some e
  obtain ⟨v, h3, h4⟩ := r.slot i d h1
  exact ⟨v, by rw [wipe_get, if_neg h2]; exact h3, h4⟩
theorem wipe_off {ws vs : List Nat} {σ σ' : SL} (o : Off ws (wipe σ vs) σ') (hs : ∀ i ∈ ws, i ∈ vs) : wipe σ' vs = wipe σ vs := by
  apply List.ext_getElem?
  intro i
  have hl : σ'.length = σ.length := by rw [o.1, wipe_length]
  rw [wipe_get, wipe_get, hl]
  by_cases h : i ∈ vs
  · rw [if_pos h, if_pos h]
  · rw [if_neg h, if_neg h, o.2 i fun z => h (hs i z), wipe_get, if_neg h]
def dLcGo (src : Src) (g : DTG) (tt : DTT) (te : DTE) (m0 : DSt) (p : Addr) (Qd : List D → DM → Prop) : List D → List D → DM → Prop
  | [], acc, M => SrcV src M ∧ Qd acc M
  | d :: ds, acc, M => SrcV src M ∧ g d m0 M fun m1 M1 => tt m1 M1 fun b M2 =>
      if b = true then te m1 M2 fun y M3 => M3 p = some (.lst acc) ∧ dLcGo src g tt te m0 p Qd ds (acc ++ [y]) (mput M3 p (.lst (acc ++ [y])))
      else M2 p = some (.lst acc) ∧ dLcGo src g tt te m0 p Qd ds acc M2
/-- [e for ..]: a list that will be changed, one that stays -/
def dLc (t : DTI) (g : DTG) (tt : DTT) (te : DTE) (vs : List Nat) : DTE := fun m M Q => t m M fun src M1 => src.1.length ≤ sizeLine → ∀ p, M1 p = none → dLcGo src g tt te (dwipe m vs) p (fun _ M2 => Q (.ref p) M2) src.1 [] (mput M1 p (.lst []))
def dLcF (t : DTI) (g : DTG) (tt : DTT) (te : DTE) (vs : List Nat) : DTE := fun m M Q => t m M fun src M1 => src.1.length ≤ sizeLine → ∀ p, M1 p = none → dLcGo src g tt te (dwipe m vs) p (fun acc M2 => Q (.lst acc) (mdel M2 p)) src.1 [] (mput M1 p (.lst []))
abbrev dYes : DTT := fun _ M Q => Q true M
section
variable {X : Cx} {elt tg iter : Expr} {ifs : List Expr} {scope : Scope} {own : List (Str × Nat)} {pos : Pos} {t : DTI} {g : DTG} {tt : DTT} {te : DTE} {ws : List Nat}
abbrev DPTs (X : Cx) (ifs : List Expr) (t : DTT) : Prop := PTs X ifs (upT X.K t)
theorem dts_nil : DPTs X [] dYes := ⟨fun pins s σ H Q I h => pts_nil.run pins s σ H Q I (by
  obtain ⟨m, M, Q', r, q, k⟩ := h
  exact k true M H (.refl H) r.mem q)⟩
theorem dts_one {c : Expr} {t : DTT} (h : DT X c t) : DPTs X [c] t := pts_one h
theorem lc_up {K : PySem.W.Frag} {vs : List Nat} (hsub : ∀ i ∈ ws, i ∈ vs) {σ : SL} {H : Hp} {Q : VK} {Qf : Addr → List D → DM → Prop}
    (fin : ∀ p acc ws M2 H2, Grow H H2 → RM K H2 M2 → H2 p = some (.lst ws) → ws.length ≤ sizeLine → RepL K H2 acc ws → M2 p = some (.lst acc) → Qf p acc M2 → Q (.ref p) H2)
    (m : DSt) (M : DM) (r : R K m M σ H) (q : t m M fun src M1 => src.1.length ≤ sizeLine → ∀ p, M1 p = none → dLcGo src g tt te (dwipe m vs) p (Qf p) src.1 [] (mput M1 p (.lst []))) :
    tLc (upI K t) (upG K ws g) (upT K tt) (upE K te) vs σ H Q := by
  refine ⟨m, M, _, r, q, fun src M1 H1 J g1 m1 q1 st p np => ?_⟩
  have q2 := q1 st.small p (m1.free np)
  have g2 : Grow H1 (upd H1 p (.lst [])) := .new np
  refine ⟨fun i n H2 => i + n = src.1.length ∧ Grow H1 H2 ∧ ∃ acc M2, acc.length ≤ i ∧ M2 p = some (.lst acc) ∧ RM K H2 M2 ∧ dLcGo src g tt te (dwipe m vs) p (Qf p) (src.1.drop i) acc M2,
    ⟨src.1.length, by omega, g2, [], _, Nat.le_refl _, mput_same, m1.newLst np (Nat.zero_le _) .nil, q2⟩, ?_⟩
  rintro i n H2 ⟨hl, g3, acc, M2, ha, hp, m2, q3⟩
  have r2 : R K (dwipe m vs) M2 (wipe σ vs) H2 := (r.wipe vs).grow (g1.trans g3) m2
  by_cases hlt : i < src.1.length
  · rw [List.drop_eq_getElem_cons hlt] at q3
    obtain ⟨sv, q3⟩ := q3
    have so := sv.ok g3 m2
    refine .inr ⟨st.go i H2 so hlt, fun H3 => Grow H1 H3 ∧ ∃ acc M2, acc.length ≤ i + 1 ∧ M2 p = some (.lst acc) ∧ RM K H3 M2 ∧ dLcGo src g tt te (dwipe m vs) p (Qf p) (src.1.drop (i + 1)) acc M2,
      fun H3 ⟨g4, z⟩ => ⟨n - 1, by omega, by omega, g4, z⟩, fun x H3 y => ?_⟩
    obtain ⟨g4, k4, d, e4, rd⟩ := st.yld i H2 x H3 so hlt y
    have ed : d = src.1[i] := by
      rw [List.getElem?_eq_getElem hlt] at e4
      exact (Option.some.inj e4).symm
    subst ed
    refine ⟨_, _, M2, _, rd, r2.grow g4 (k4 _ m2), q3, fun m5 M5 σ5 H5 g5 r5 o5 q5 => ⟨wipe_off o5 hsub, ?_⟩⟩
    refine ⟨m5, M5, _, r5, q5, fun b M6 H6 g6 m6 q6 => ?_⟩
    have g06 : Grow H1 H6 := ((g3.trans g4).trans g5).trans g6
    cases b with
    | true =>
      refine ⟨m5, M6, _, r5.grow g6 m6, q6, fun y v M7 H7 g7 rv m7 ⟨e7, q7⟩ => ?_⟩
      obtain ⟨us, h8, z8, l8⟩ := m7.lst e7
      have hsz : us.length < sizeLine := by
        rw [← l8.length]
        exact Nat.lt_of_le_of_lt ha (Nat.lt_of_lt_of_le hlt st.small)
      refine ⟨us, h8, hsz, (g06.trans g7).trans (.put h8), acc ++ [y], _, by rw [List.length_append]; simp; omega, mput_same, m7.putLst h8 (by rw [List.length_append]; exact hsz) (l8.append (.one rv)), q7⟩
    | false =>
      have q6' : M6 p = some (.lst acc) ∧ dLcGo src g tt te (dwipe m vs) p (Qf p) (src.1.drop (i + 1)) acc M6 := q6
      exact ⟨g06, acc, M6, by omega, q6'.1, m6, q6'.2⟩
  · have e : i = src.1.length := by omega
    subst e
    rw [List.drop_length] at q3
    obtain ⟨us, h8, z8, l8⟩ := m2.lst hp
    exact .inl ⟨st.stop H2 (q3.1.ok g3 m2), fin p acc us M2 H2 (g1.trans g3) m2 h8 z8 l8 hp q3.2⟩
theorem d_lc (hc : X.calm = true) (hN : X.N.Nodup) (hi : DI X tg iter t) (ok : BlkOk X.N X.env.scope scope own) (hsub : ∀ i ∈ ws, i ∈ own.map (·.2))
    (hg : ∀ (s : Shared) (H : Hp) (C : Addr) (cl : List (Str × Addr)) (fp : List Addr), DG (X.blk s H scope (compEnvC scope cl C X.env) fp) ws tg g)
    (ht : ∀ (s : Shared) (H : Hp) (C : Addr) (cl : List (Str × Addr)) (fp : List Addr), DPTs (X.blk s H scope (compEnvC scope cl C X.env) fp) ifs tt)
    (he : ∀ (s : Shared) (H : Hp) (C : Addr) (cl : List (Str × Addr)) (fp : List Addr), DE (X.blk s H scope (compEnvC scope cl C X.env) fp) elt te)
    (hs : ∀ x, foldedSetIterable iter X.env x = pure x := by intro _; rfl) : DE X (.ListComp elt [⟨tg, iter, ifs, 0⟩] scope pos) (dLc t g tt te (own.map (·.2))) :=
  imE (pe_lc hc hN hi ok hg ht he hs) fun σ H Q ⟨m, M, Q', r, q, k⟩ =>
    lc_up (Qf := fun p _ M2 => Q' (.ref p) M2) hsub (fun p acc ws M2 H2 g2 m2 _ _ _ _ q2 => k _ _ M2 H2 g2 (.ref p) m2 q2) m M r q
theorem d_lcF (hc : X.calm = true) (hN : X.N.Nodup) (hi : DI X tg iter t) (ok : BlkOk X.N X.env.scope scope own) (hsub : ∀ i ∈ ws, i ∈ own.map (·.2))
    (hg : ∀ (s : Shared) (H : Hp) (C : Addr) (cl : List (Str × Addr)) (fp : List Addr), DG (X.blk s H scope (compEnvC scope cl C X.env) fp) ws tg g)
    (ht : ∀ (s : Shared) (H : Hp) (C : Addr) (cl : List (Str × Addr)) (fp : List Addr), DPTs (X.blk s H scope (compEnvC scope cl C X.env) fp) ifs tt)
    (he : ∀ (s : Shared) (H : Hp) (C : Addr) (cl : List (Str × Addr)) (fp : List Addr), DE (X.blk s H scope (compEnvC scope cl C X.env) fp) elt te)
    (hs : ∀ x, foldedSetIterable iter X.env x = pure x := by intro _; rfl) : DE X (.ListComp elt [⟨tg, iter, ifs, 0⟩] scope pos) (dLcF t g tt te (own.map (·.2))) :=
  imE (pe_fz (pe_lc hc hN hi ok hg ht he hs)) fun σ H Q ⟨m, M, Q', r, q, k⟩ =>
    lc_up (Qf := fun p acc M2 => Q' (.lst acc) (mdel M2 p)) hsub (fun p acc ws M2 H2 g2 m2 h8 z8 l8 _ q2 =>
      ⟨p, ws, rfl, h8, fun o => k _ _ _ _ (g2.trans (.put h8)) (.lst (.inl ⟨o, upd_same⟩) z8 (l8.grow (.put h8))) (m2.frz h8) q2⟩) m M r q
end

/-! ### defs -/
abbrev DSp := List D → DM → DVK → Prop
def upSp (K : PySem.W.Frag) (dsp : DSp) : Sp := fun vs H Q _ => ∃ ds M Q', RepL K H ds vs ∧ RM K H M ∧ dsp ds M Q' ∧
  ∀ d v M' H', Grow H H' → Rep K H' d v → RM K H' M' → Q' d M' → Q v H'
/-- the def x keeps the promise dsp -/
structure Cal (P : Program) (w : World) (K : PySem.W.Frag) (mg : Str → Option Value) (base : Heap) (k : Nat) (x : Str) (ps : List Str) (dsp : DSp) : Prop where
  ex : ∃ f fd, FnOk P w K mg base CX0 k f fd ps (upSp K dsp) ∧ mg x = some (.ref f) ∧ PySem.W.keepIn K (.ref f) = true ∧ Binds K fd ps []
/-- the def x as the top has left it -/
structure Def (K : PySem.W.Frag) (mg : Str → Option Value) (x : Str) (st : Stmt) (ps : List Str) : Prop where
  ex : ∃ f fd, Fun K x x st f fd ∧ mg x = some (.ref f) ∧ Binds K fd ps []
def dCall (dsp : DSp) (t : DTA) : DTE := fun m M Q => t m M fun ds M1 => dsp ds M1 Q
def ret (Q : DVK) : DVK := fun d M => ∃ M0, MLe M0 M ∧ Q d M0
theorem ret_of {Q : DVK} {d : D} {M : DM} (h : Q d M) : ret Q d M := ⟨M, .refl M, h⟩
theorem ret_le {Q : DVK} {d : D} {M M0 : DM} (l : MLe M0 M) (h : Q d M0) : ret Q d M := ⟨M0, l, h⟩
def dstart (N : List Str) (ds : List D) : DSt := ds.map some ++ List.replicate (N.length - ds.length) none
def dEnds (Q : DVK) : DEnds := { nx := fun _ M => ret Q .non M, rt := ret Q }
section
variable {P : Program} {w : World} {K : PySem.W.Frag} {mg : Str → Option Value} {base : Heap} {k j : Nat} {x : Str} {ps N : List Str} {dsp : DSp} {st : Stmt}
abbrev Ctx (P : Program) (w : World) (K : PySem.W.Frag) (mg : Str → Option Value) (base : Heap) (N : List Str) (x : Str) (st : Stmt) (f : Addr) (cdv : Value) (A : Around) (outer : List Env) (s : Shared) (H : Hp) (E : XK) : Cx :=
  (cxOf CX0 P w K mg base N x (defScope st) f cdv A outer s H E).nox
theorem start_slot {H : Hp} {ds : List D} {vs : List V} {n i : Nat} {d : D} (l : RepL K H ds vs) (e : (ds.map some ++ List.replicate (n - ds.length) none)[i]? = some (some d)) :
    ∃ v, (vs.map some ++ List.replicate (n - vs.length) none)[i]? = some (some v) ∧ Rep K H d v := by
  have hl := l.length
  by_cases hi : i < ds.length
  · rw [List.getElem?_append_left (by simpa using hi)] at e
    rw [List.getElem?_append_left (by simpa [← hl] using hi)]
    rw [List.getElem?_map] at e ⊢
    cases q : ds[i]? with
    | none => rw [q] at e; cases e
    | some d' =>
      rw [q] at e
      cases e
      obtain ⟨v, h1, h2⟩ := l.get q
      exact ⟨v, by rw [h1]; rfl, h2⟩
  · rw [List.getElem?_append_right (by simpa using hi), List.getElem?_replicate] at e
    split at e <;> cases e
/-- THE RULE for a def -/
theorem Def.cal (F : Def K mg x st ps) (S : FnScope N ps (defScope st)) (len : ∀ ds M Q, dsp ds M Q → ds.length = ps.length) {t : DTS}
    (body : ∀ (f : Addr) (cdv : Value) (A : Around) (outer : List Env) (s : Shared) (H : Hp) (E : XK), Room k (A.deeper (envOfC x (defScope st) s.heap.objs.size f cdv)) → DSs (Ctx P w K mg base N x st f cdv A outer s H E) (defBody st) t)
    (rd : ∀ ds M Q, dsp ds M Q → t (dEnds Q) (dstart N ds) M) : Cal P w K mg base (k + 1) x ps dsp := by
  obtain ⟨f, fd, F, hm, hb⟩ := F.ex
  refine ⟨f, fd, F.ok S (fun vs H Q E ⟨ds, M, Q', l, _, q, _⟩ => by rw [← l.length]; exact len ds M Q' q) (fun cdv A outer s H vs Q E hr ⟨ds, M, Q', l, m, q, kk⟩ => ?_), hm, F.kp, hb⟩
  refine ⟨_, body f cdv A outer s H E hr, dstart N ds, M, dEnds Q', ⟨?_, fun i d e => start_slot l e, m⟩, rd ds M Q' q,
    ⟨fun m1 M1 σ1 H1 g1 r1 ⟨M0, le, q1⟩ => kk _ _ M0 H1 g1 .non (r1.mem.le le) q1, fun _ _ _ _ _ _ z => z.elim, fun _ _ _ _ _ _ z => z.elim, fun d v M1 H1 g1 r1 m1 ⟨M0, le, q1⟩ => kk d v M0 H1 g1 r1 (m1.le le) q1⟩⟩
  simp [dstart, L2.start, l.length]
theorem Cal.mono (C : Cal P w K mg base j x ps dsp) (h : j ≤ k) : Cal P w K mg base k x ps dsp :=
  let ⟨f, fd, F, a, b, c⟩ := C.ex; ⟨f, fd, F.mono h, a, b, c⟩
/-- a weaker promise -/
theorem Cal.imp {dsp' : DSp} (C : Cal P w K mg base k x ps dsp) (h : ∀ ds M Q, dsp' ds M Q → dsp ds M Q) : Cal P w K mg base k x ps dsp' :=
  let ⟨f, fd, F, a, b, c⟩ := C.ex; ⟨f, fd, F.imp fun vs H Q E ⟨ds, M, Q', l, m, q, kk⟩ => ⟨ds, M, Q', l, m, h ds M Q' q, kk⟩, a, b, c⟩
end
section
variable {X : Cx} {k : Nat} {x : Str} {ps : List Str} {dsp : DSp} {e : Expr} {es : List Expr} {p pos : Pos} {t : DTA}
theorem call_up {σ : SL} {H : Hp} {Q : VK} (h : upE X.K (dCall dsp t) σ H Q) : tCall (upSp X.K dsp) [] E0 (upA X.K t) σ H Q := by
  obtain ⟨m, M, Q', r, q, kk⟩ := h
  refine ⟨m, M, _, r, q, fun ds vs M1 H1 g1 l1 m1 q1 => ?_⟩
  exact ⟨ds, M1, Q', by rw [List.append_nil]; exact l1, m1, q1, fun d v M2 H2 g2 => kk d v M2 H2 (g1.trans g2)⟩
theorem d_call (C : Cal X.prog X.w X.K X.mg X.base k x ps dsp) (hr : Room k X.A) (hg : Gl X x) (ha : DA X (e :: es) t) (hdb : (x == ("__debug__" : Str)) = false := by decide)
    (he : starEach (e :: es) X.env = (false, eval e X.env) :: starEach es X.env := by rfl) (hpl : (backTo pos (starEach es X.env)).any (·.1) = false := by rfl) : DE X (.Call (.Name x p) (e :: es) [] pos) (dCall dsp t) := by
  obtain ⟨f, fd, F, hm, hk, hb⟩ := C.ex
  exact imE (pe_call F hr hg hm hk hb .nil pass0 ha hdb he hpl) fun σ H Q h => call_up (σ := σ) (H := H) (Q := Q) h
theorem d_call0 (C : Cal X.prog X.w X.K X.mg X.base k x ps dsp) (hr : Room k X.A) (hg : Gl X x) (hdb : (x == ("__debug__" : Str)) = false := by decide) : DE X (.Call (.Name x p) [] [] pos) (dCall dsp dNil) := by
  obtain ⟨f, fd, F, hm, hk, hb⟩ := C.ex
  refine imE (pe_call0 F hr hg hm hk hb .nil pass0 hdb) fun σ H Q ⟨m, M, Q', r, q, kk⟩ => ?_
  exact ⟨[], M, Q', .nil, r.mem, q, kk⟩

/-! ### built-ins -/
abbrev DCR := List D → DM → DVK → Prop
def upC (K : PySem.W.Frag) (dr : DCR) : List V → Hp → VK → Prop := fun vs H Q => ∃ ds M Q', RepL K H ds vs ∧ RM K H M ∧ dr ds M Q' ∧
  ∀ d v M' H', Grow H H' → Rep K H' d v → RM K H' M' → Q' d M' → Q v H'
abbrev DCall (X : Cx) (f : Value) (dr : DCR) : Prop := CallR X f (upC X.K dr)
def dCB (dr : DCR) (t : DTA) : DTE := fun m M Q => t m M fun ds M1 => dr ds M1 Q
theorem cb_up {dr : DCR} {σ : SL} {H : Hp} {Q : VK} (h : upE X.K (dCB dr t) σ H Q) : tCB (upC X.K dr) (upA X.K t) σ H Q := by
  obtain ⟨m, M, Q', r, q, kk⟩ := h
  exact ⟨m, M, _, r, q, fun ds vs M1 H1 g1 l1 m1 q1 => ⟨ds, M1, Q', l1, m1, q1, fun d v M2 H2 g2 => kk d v M2 H2 (g1.trans g2)⟩⟩
theorem d_cb {id : String} {dr : DCR} (hc : DCall X (.builtin id) dr) (hg : Gl X x) (hm : X.mg x = none) (hv : bootBuiltins x = some (.builtin id)) (ha : DA X (e :: es) t) (hn : x ≠ "__name__" := by decide) (hdb : (x == ("__debug__" : Str)) = false := by decide)
    (he : starEach (e :: es) X.env = (false, eval e X.env) :: starEach es X.env := by rfl) (hpl : (backTo pos (starEach es X.env)).any (·.1) = false := by rfl) : DE X (.Call (.Name x p) (e :: es) [] pos) (dCB dr t) :=
  imE (pe_callB hc hg hm hv ha hn hdb he hpl) fun σ H Q h => cb_up (σ := σ) (H := H) (Q := Q) h
theorem d_ct {T : String} {dr : DCR} (hc : DCall X (.type T) dr) (hg : Gl X x) (hm : X.mg x = none) (hv : bootBuiltins x = some (.type T)) (ha : DA X (e :: es) t) (hn : x ≠ "__name__" := by decide) (hdb : (x == ("__debug__" : Str)) = false := by decide)
    (he : starEach (e :: es) X.env = (false, eval e X.env) :: starEach es X.env := by rfl) (hpl : (backTo pos (starEach es X.env)).any (·.1) = false := by rfl) : DE X (.Call (.Name x p) (e :: es) [] pos) (dCB dr t) :=
  imE (pe_callTy hc hg hm hv ha hn hdb he hpl) fun σ H Q h => cb_up (σ := σ) (H := H) (Q := Q) h
/-- a built-in function that a name of the module holds -/
theorem d_cm {id : String} {dr : DCR} (hc : DCall X (.builtin id) dr) (hg : Gl X x) (hm : X.mg x = some (.builtin id)) (ha : DA X (e :: es) t) (hdb : (x == ("__debug__" : Str)) = false := by decide)
    (he : starEach (e :: es) X.env = (false, eval e X.env) :: starEach es X.env := by rfl) (hpl : (backTo pos (starEach es X.env)).any (·.1) = false := by rfl) : DE X (.Call (.Name x p) (e :: es) [] pos) (dCB dr t) :=
  imE (pe_callBfun hc hg hm ha hdb he hpl) fun σ H Q h => cb_up (σ := σ) (H := H) (Q := Q) h
end
end DL
namespace DL
open PySem PySem.Spec PyProof.Rows L2

/-! ### data: what == reads -/
mutual
def D.py : D → PyData
  | .non => .none
  | .bl b => .bool b
  | .int i => .int i
  | .str x => .str x
  | .tup xs => .tuple (D.pys xs)
  | .lst xs => .list (D.pys xs)
  | .dct _ => .none
  | .ref _ => .none
  | .ty _ => .none
def D.pys : List D → List PyData
  | [] => []
  | x :: xs => D.py x :: D.pys xs
end
/-- plain data, at most n deep -/
def dOk : Nat → D → Bool
  | _, .non => true
  | _, .bl _ => true
  | _, .int _ => true
  | _, .str x => PyData.strOk x
  | n + 1, .tup xs => xs.all (dOk n)
  | n + 1, .lst xs => xs.all (dOk n)
  | _, _ => false
def D.eqv (x y : D) : Bool := PyData.eqv x.py y.py
theorem pys_len : ∀ xs : List D, (D.pys xs).length = xs.length
  | [] => rfl
  | _ :: xs => congrArg (· + 1) (pys_len xs)
theorem pys_map : ∀ xs : List D, D.pys xs = xs.map D.py
  | [] => by simp [D.pys]
  | x :: xs => by simp [D.pys, pys_map xs]
theorem lay_all : ∀ {n : Nat} {xs : List D}, (∀ x ∈ xs, x.py.canLay0 = true ∧ x.py.depth ≤ n) → PyData.canLayAll0 (D.pys xs) = true ∧ PyData.depthAll (D.pys xs) ≤ n
  | n, [], _ => by simp [D.pys, PyData.canLayAll0, PyData.depthAll]
  | n, x :: xs, h => by
    obtain ⟨h1, h2⟩ := h x (by simp)
    obtain ⟨h3, h4⟩ := lay_all (n := n) (xs := xs) fun y hy => h y (by simp [hy])
    simp only [D.pys, PyData.canLayAll0, PyData.depthAll, h1, h3, Bool.and_self, true_and]
    omega
theorem dOk_lay : ∀ (n : Nat) (d : D), dOk n d = true → d.py.canLay0 = true ∧ d.py.depth ≤ n
  | n, .non, _ => by simp [D.py, PyData.canLay0, PyData.depth]
  | n, .bl _, _ => by simp [D.py, PyData.canLay0, PyData.depth]
  | n, .int _, _ => by simp [D.py, PyData.canLay0, PyData.depth]
  | n, .str x, h => by
    have h' : PyData.strOk x = true := by
      cases n <;> exact h
    simp [D.py, PyData.canLay0, PyData.depth, h']
  | 0, .tup xs, h => by cases h
  | 0, .lst xs, h => by cases h
  | n + 1, .tup xs, h => by
    have h' : xs.all (dOk n) = true := h
    have z := lay_all (n := n) (xs := xs) fun x hx => dOk_lay n x (List.all_eq_true.mp h' x hx)
    simp only [D.py, PyData.canLay0, PyData.depth]
    exact ⟨z.1, Nat.succ_le_succ z.2⟩
  | n + 1, .lst xs, h => by
    have h' : xs.all (dOk n) = true := h
    have z := lay_all (n := n) (xs := xs) fun x hx => dOk_lay n x (List.all_eq_true.mp h' x hx)
    simp only [D.py, PyData.canLay0, PyData.depth]
    exact ⟨z.1, Nat.succ_le_succ z.2⟩
  | n, .dct _, h => by cases n <;> cases h
  | n, .ref _, h => by cases n <;> cases h
  | n, .ty _, h => by cases n <;> cases h
theorem dOk_shaped {n : Nat} {d : D} (h : dOk n d = true) (hn : n ≤ 64) : SeqAt.shaped d.py = true := by
  obtain ⟨h1, h2⟩ := dOk_lay n d h
  unfold SeqAt.shaped
  rw [h1, Bool.true_and]
  exact decide_eq_true (Nat.le_trans h2 hn)
theorem dOk_mono : ∀ {n m : Nat} {d : D}, dOk n d = true → n ≤ m → dOk m d = true
  | _, m, .non, _, _ => by cases m <;> rfl
  | _, m, .bl _, _, _ => by cases m <;> rfl
  | _, m, .int _, _, _ => by cases m <;> rfl
  | n, m, .str x, h, _ => by
    have h' : PyData.strOk x = true := by cases n <;> exact h
    cases m <;> exact h'
  | 0, _, .tup _, h, _ => by cases h
  | 0, _, .lst _, h, _ => by cases h
  | n + 1, 0, .tup xs, h, l => by omega
  | n + 1, 0, .lst xs, h, l => by omega
  | n + 1, m + 1, .tup xs, h, l => by
    have h' : xs.all (dOk n) = true := h
    show xs.all (dOk m) = true
    exact List.all_eq_true.mpr fun x hx => dOk_mono (List.all_eq_true.mp h' x hx) (Nat.le_of_succ_le_succ l)
  | n + 1, m + 1, .lst xs, h, l => by
    have h' : xs.all (dOk n) = true := h
    show xs.all (dOk m) = true
    exact List.all_eq_true.mpr fun x hx => dOk_mono (List.all_eq_true.mp h' x hx) (Nat.le_of_succ_le_succ l)
  | n, _, .dct _, h, _ => by cases n <;> cases h
  | n, _, .ref _, h, _ => by cases n <;> cases h
  | n, _, .ty _, h, _ => by cases n <;> cases h
section
variable {K : PySem.W.Frag} {H : Hp}
mutual
theorem Rep.dp : ∀ {n : Nat} {d : D} {v : V}, Rep K H d v → dOk n d = true → Dp K H v d.py
  | _, _, _, .non, _ => .non
  | _, _, _, .bl b, _ => .bl b
  | _, _, _, .int i, _ => .int i
  | _, _, _, .str x, _ => .str x
  | 0, _, _, .tup _ _ _, h => by cases h
  | 0, _, _, .lst _ _ _, h => by cases h
  | n + 1, _, _, .tup hs _ l, h => .tup hs (RepL.dp (n := n) l h)
  | n + 1, _, _, .lst hs _ l, h => .lst hs.seq (RepL.dp (n := n) l h)
  | n, _, _, .ref _, h => by cases n <;> cases h
  | n, _, _, .ty _, h => by cases n <;> cases h
theorem RepL.dp : ∀ {n : Nat} {ds : List D} {vs : List V}, RepL K H ds vs → ds.all (dOk n) = true → DpAll K H vs (D.pys ds)
  | _, _, _, .nil, _ => .nil
  | n, _, _, .cons r l, h => by
    rw [List.all_cons, Bool.and_eq_true] at h
    exact .cons (Rep.dp (n := n) r h.1) (RepL.dp (n := n) l h.2)
end
end
/-- == is identity where no truth value stands -/
def nobl : D → Bool
  | .bl _ => false
  | .tup xs => nobls xs
  | .lst xs => nobls xs
  | _ => true
where nobls : List D → Bool
  | [] => true
  | x :: xs => nobl x && nobls xs

/-! ### operators on data -/
section
variable {X : Cx}
def dEq : DR2 := fun x y M Q => (dOk 64 x = true ∧ dOk 64 y = true) ∧ Q (.bl (D.eqv x y)) M
def dNe : DR2 := fun x y M Q => (dOk 64 x = true ∧ dOk 64 y = true) ∧ Q (.bl (!D.eqv x y)) M
theorem o_eq (hu : X.A.units + 64 < cLine) : DOp X (compareOp .Eq) dEq := by
  intro pins s σ H x y v u Q I rx ry ⟨d, e, M, Q', r1, r2, m, ⟨⟨h1, h2⟩, q⟩, k⟩
  exact op_eqD hu pins s σ H x y v u Q I rx ry ⟨_, _, r1.dp h1, r2.dp h2, dOk_shaped h1 (Nat.le_refl _), dOk_shaped h2 (Nat.le_refl _), k _ _ M H (.refl H) (.bl _) m q⟩
theorem o_ne (hu : X.A.units + 64 < cLine) : DOp X (compareOp .NotEq) dNe := by
  intro pins s σ H x y v u Q I rx ry ⟨d, e, M, Q', r1, r2, m, ⟨⟨h1, h2⟩, q⟩, k⟩
  exact op_neD hu pins s σ H x y v u Q I rx ry ⟨_, _, r1.dp h1, r2.dp h2, dOk_shaped h1 (Nat.le_refl _), dOk_shaped h2 (Nat.le_refl _), k _ _ M H (.refl H) (.bl _) m q⟩
def D.isN : D → Bool
  | .non => true
  | _ => false
theorem Rep.isN {K : PySem.W.Frag} {H : Hp} {d : D} {v : V} (r : Rep K H d v) : decide (v = .non) = d.isN := by
  cases r <;> simp [D.isN]
def dIs : DR2 := fun x y M Q => y = .non ∧ Q (.bl x.isN) M
def dIsNot : DR2 := fun x y M Q => y = .non ∧ Q (.bl (!x.isN)) M
theorem o_is : DOp X (compareOp .Is) dIs := by
  intro pins s σ H x y v u Q I rx ry ⟨d, e, M, Q', r1, r2, m, ⟨h1, q⟩, k⟩
  subst h1
  cases r2
  exact op_isN pins s σ H x _ v u Q I rx ry ⟨rfl, by rw [r1.isN]; exact k _ _ M H (.refl H) (.bl _) m q⟩
theorem o_isnot : DOp X (compareOp .IsNot) dIsNot := by
  intro pins s σ H x y v u Q I rx ry ⟨d, e, M, Q', r1, r2, m, ⟨h1, q⟩, k⟩
  subst h1
  cases r2
  exact op_notN pins s σ H x _ v u Q I rx ry ⟨rfl, by rw [r1.isN]; exact k _ _ M H (.refl H) (.bl _) m q⟩
/-- x in a list or tuple of data -/
def dIn : DR2 := fun x y M Q => ∃ ys, dItems y M = some ys ∧ (dOk 63 x = true ∧ ys.all (dOk 63) = true) ∧ Q (.bl (ys.any fun z => D.eqv z x)) M
def dNotIn : DR2 := fun x y M Q => ∃ ys, dItems y M = some ys ∧ (dOk 63 x = true ∧ ys.all (dOk 63) = true) ∧ Q (.bl (!ys.any fun z => D.eqv z x)) M
theorem any_pys (x : D) : ∀ ys : List D, (D.pys ys).any (fun z => PyData.eqv z x.py) = ys.any fun z => D.eqv z x
  | [] => rfl
  | y :: ys => by
    rw [D.pys, List.any_cons, List.any_cons, any_pys x ys]
    rfl
theorem o_in (hu : X.A.units + 65 < cLine) : DOp X (compareOp .In) dIn := by
  intro pins s σ H x y v u Q I rx ry ⟨d, e, M, Q', r1, r2, m, ⟨ys, h1, ⟨h2, h3⟩, q⟩, k⟩
  have hs : SeqAt.shaped (PyData.list (D.pys ys)) = true := dOk_shaped (n := 64) (d := .lst ys) h3 (Nat.le_refl _)
  have hst : SeqAt.shaped (PyData.tuple (D.pys ys)) = true := dOk_shaped (n := 64) (d := .tup ys) h3 (Nat.le_refl _)
  have hx := dOk_shaped h2 (by decide)
  have fin := k _ _ M H (.refl H) (.bl _) m q
  rw [← any_pys] at fin
  obtain ⟨a, vs, rfl, z, l, ⟨h4, _⟩ | ⟨h4, _⟩⟩ := items_of r2 m h1
  · exact op_inD hu pins s σ H x _ v u Q I rx ry ⟨_, _, r1.dp h2, .lst h4 (l.dp h3), hx, hs, fin⟩
  · obtain ⟨as, q1⟩ := Dp.reads I _ x v (r1.dp h2) rx
    obtain ⟨bs, q2⟩ := Dp.reads I (.tuple (D.pys ys)) _ u (.tup h4 (l.dp h3)) ry
    exact SeqAt.in_tuple_reads q2 q1 (SeqAt.canLay_of_shaped hst) (SeqAt.canLay_of_shaped hx) (room_in_shaped hx hu) ⟨.bl _, H, I, rfl, fin⟩
theorem o_notin (hu : X.A.units + 65 < cLine) : DOp X (compareOp .NotIn) dNotIn := by
  intro pins s σ H x y v u Q I rx ry ⟨d, e, M, Q', r1, r2, m, ⟨ys, h1, ⟨h2, h3⟩, q⟩, k⟩
  have hs : SeqAt.shaped (PyData.list (D.pys ys)) = true := dOk_shaped (n := 64) (d := .lst ys) h3 (Nat.le_refl _)
  have hst : SeqAt.shaped (PyData.tuple (D.pys ys)) = true := dOk_shaped (n := 64) (d := .tup ys) h3 (Nat.le_refl _)
  have hx := dOk_shaped h2 (by decide)
  have fin := k _ _ M H (.refl H) (.bl _) m q
  rw [← any_pys] at fin
  obtain ⟨a, vs, rfl, z, l, ⟨h4, _⟩ | ⟨h4, _⟩⟩ := items_of r2 m h1
  · exact op_notInD hu pins s σ H x _ v u Q I rx ry ⟨_, _, r1.dp h2, .lst h4 (l.dp h3), hx, hs, fin⟩
  · obtain ⟨as, q1⟩ := Dp.reads I _ x v (r1.dp h2) rx
    obtain ⟨bs, q2⟩ := Dp.reads I (.tuple (D.pys ys)) _ u (.tup h4 (l.dp h3)) ry
    exact SeqAt.notIn_tuple_reads q2 q1 (SeqAt.canLay_of_shaped hst) (SeqAt.canLay_of_shaped hx) (room_in_shaped hx hu) ⟨.bl _, H, I, rfl, fin⟩
/-- xs[i] -/
def dIx : DR2 := fun x y M Q => ∃ xs i d, dItems x M = some xs ∧ y = .int i ∧ atI xs i = some d ∧ Q d M
theorem atI_rep {K : PySem.W.Frag} {H : Hp} {ds : List D} {vs : List V} {i : Int} {d : D} (l : RepL K H ds vs) (h : atI ds i = some d) : ∃ v, atI vs i = some v ∧ Rep K H d v := by
  unfold atI at h ⊢
  rw [← l.length]
  cases q : ixN ds.length i with
  | none => rw [q] at h; cases h
  | some j =>
    rw [q] at h
    exact l.get h
theorem x_ix : IxR X (upR2 X.K dIx) := by
  intro value slice pins s σ H x y v u Q I rx ry ⟨d, e, M, Q', r1, r2, m, ⟨xs, i, z, h1, h2, h3, q⟩, k⟩ hop
  subst h2
  cases r2
  obtain ⟨a, vs, rfl, zz, l, h⟩ := items_of r1 m h1
  obtain ⟨w, h4, h5⟩ := atI_rep l h3
  have fin := k _ _ M H (.refl H) h5 m q
  rcases h with ⟨h6, _⟩ | ⟨h6, _⟩
  · exact ix_list value slice pins s σ H _ _ v u Q I rx ry ⟨a, vs, i, w, rfl, rfl, h6, h4, fin⟩ hop
  · exact ix_tup value slice pins s σ H _ _ v u Q I rx ry ⟨a, vs, i, w, rfl, rfl, h6, h4, fin⟩ hop
theorem d_ix {r : DR2} {a b : Expr} {ta tb : DTE} {pos : Pos} (hr : IxR X (upR2 X.K r)) (ha : DE X a ta) (hb : DE X b tb) (hs : PlainIx b) : DE X (.Subscript a b pos) (dOp r ta tb) :=
  imE (pe_ix hr ha hb hs) fun σ H Q h => up_op (σ := σ) (H := H) (Q := Q) h
/-- -x -/
def dUn (r : D → DM → DVK → Prop) (ta : DTE) : DTE := fun m M Q => ta m M fun x M1 => r x M1 Q
def dNegI : D → DM → DVK → Prop := fun x M Q => ∃ i, x = .int i ∧ Q (.int (-i)) M
theorem d_neg {a : Expr} {ta : DTE} {pos : Pos} (ha : DE X a ta) : DE X (.UnaryOp .USub a pos) (dUn dNegI ta) :=
  imE (pe_un un_neg ha) fun σ H Q ⟨m, M, Q', r, q, k⟩ => by
    refine ⟨m, M, _, r, q, fun d v M1 H1 g1 r1 m1 ⟨i, e, q1⟩ => ?_⟩
    subst e
    cases r1
    exact ⟨i, rfl, k _ _ M1 H1 g1 (.int _) m1 q1⟩

/-! ### built-ins -/
def dLenOf : D → DM → Option Nat
  | .tup xs, _ => some xs.length
  | .lst xs, _ => some xs.length
  | .ref a, M => match M a with
    | some (.lst xs) => some xs.length
    | _ => none
  | .str z, _ => if z.length ≤ sizeLine then some z.length else none
  | _, _ => none
theorem dLenOf_ref {xs : List D} {M : DM} {a : Addr} (h : M a = some (.lst xs)) : dLenOf (.ref a) M = some xs.length := by
  simp [dLenOf, h]
def rLen : DCR := fun ds M Q => ∃ d n, ds = [d] ∧ dLenOf d M = some n ∧ Q (.int n) M
theorem len_items {d : D} {M : DM} {xs : List D} (h : dItems d M = some xs) : dLenOf d M = some xs.length := by
  cases d with
  | tup ys => cases h; rfl
  | lst ys => cases h; rfl
  | ref a =>
    have h' : (match M a with | some (.lst xs) => some xs | _ => none) = some xs := h
    show (match M a with | some (.lst xs) => some xs.length | _ => none) = some xs.length
    cases q : M a with
    | none => rw [q] at h'; cases h'
    | some o =>
      rw [q] at h'
      cases o with
      | lst ys => cases h'; rfl
      | dct _ => cases h'
  | _ => cases h
theorem c_len : DCall X (.builtin "len") rLen := by
  intro pins s σ H vs us Q I r ⟨ds, M, Q', l, m, ⟨d, n, e, h, q⟩, k⟩
  subst e
  obtain ⟨v, e, rv⟩ := repL_one l
  subst e
  have fin := k _ _ M H (.refl H) (.int _) m q
  cases hs : dItems d M with
  | some xs =>
    have e := len_items hs
    rw [h] at e
    cases e
    obtain ⟨a, ws, rfl, z, l, ⟨h4, _⟩ | ⟨h4, _⟩⟩ := items_of rv m hs
    · exact call_len_seq pins s σ H _ us Q I r ⟨a, ws, rfl, .inl h4, by rw [← l.length]; exact fin⟩
    · exact call_len_seq pins s σ H _ us Q I r ⟨a, ws, rfl, .inr h4, by rw [← l.length]; exact fin⟩
  | none =>
    cases rv with
    | str z =>
      by_cases hz : z.length ≤ sizeLine
      · have e : some z.length = some n := by
          rw [← h]
          simp [dLenOf, hz]
        cases e
        exact call_len_str pins s σ H _ us Q I r ⟨z, rfl, hz, fin⟩
      · simp [dLenOf, hz] at h
    | tup => cases hs
    | lst => cases hs
    | ref a =>
      have hs' : (match M a with | some (.lst xs) => some xs | _ => none) = none := hs
      have h' : (match M a with | some (.lst xs) => some xs.length | _ => none) = some n := h
      cases q : M a with
      | none => rw [q] at h'; cases h'
      | some o =>
        rw [q] at h' hs'
        cases o with
        | lst ys => cases hs'
        | dct _ => cases h'
    | _ => cases h
/-- .. with what is known of a list's length -/
def rLenB : DCR := fun ds M Q => ∃ d xs, ds = [d] ∧ dItems d M = some xs ∧ (xs.length ≤ 16777216 → Q (.int xs.length) M)
theorem c_lenB : DCall X (.builtin "len") rLenB := by
  intro pins s σ H vs us Q I r ⟨ds, M, Q', l, m, ⟨d, xs, e, h, q⟩, k⟩
  subst e
  obtain ⟨v, e, rv⟩ := repL_one l
  subst e
  obtain ⟨a, ws, _, z, l2, _⟩ := items_of rv m h
  have hz : xs.length ≤ 16777216 := by
    rw [l2.length]
    rw [sizeLine_eq] at z
    exact z
  exact c_len pins s σ H _ us Q I r ⟨[d], M, Q', l, m, ⟨d, _, rfl, len_items h, q hz⟩, k⟩
def rAbs : DCR := fun ds M Q => ∃ i : Int, ds = [.int i] ∧ Q (.int (if i < 0 then -i else i)) M
theorem c_abs : DCall X (.builtin "abs") rAbs := by
  intro pins s σ H vs us Q I r ⟨ds, M, Q', l, m, ⟨i, e, q⟩, k⟩
  subst e
  obtain ⟨v, e, rv⟩ := repL_one l
  subst e
  cases rv
  exact call_abs pins s σ H _ us Q I r ⟨i, rfl, k _ _ M H (.refl H) (.int _) m q⟩
def rMax2 : DCR := fun ds M Q => ∃ i j : Int, ds = [.int i, .int j] ∧ Q (.int (if j > i then j else i)) M
def rMin2 : DCR := fun ds M Q => ∃ i j : Int, ds = [.int i, .int j] ∧ Q (.int (if j < i then j else i)) M
theorem c_max2 (hc : X.calm = true) : DCall X (.builtin "max") rMax2 := by
  intro pins s σ H vs us Q I r ⟨ds, M, Q', l, m, ⟨i, j, e, q⟩, k⟩
  subst e
  obtain ⟨v, w, e, rv, rw'⟩ := repL_two l
  subst e
  cases rv
  cases rw'
  exact call_max2 hc pins s σ H _ us Q I r ⟨i, j, rfl, k _ _ M H (.refl H) (.int _) m q⟩
theorem c_min2 (hc : X.calm = true) : DCall X (.builtin "min") rMin2 := by
  intro pins s σ H vs us Q I r ⟨ds, M, Q', l, m, ⟨i, j, e, q⟩, k⟩
  subst e
  obtain ⟨v, w, e, rv, rw'⟩ := repL_two l
  subst e
  cases rv
  cases rw'
  exact call_min2 hc pins s σ H _ us Q I r ⟨i, j, rfl, k _ _ M H (.refl H) (.int _) m q⟩
def dIntOf : D → Option Int
  | .int i => some i
  | .bl b => some (if b then 1 else 0)
  | _ => none
def rInt : DCR := fun ds M Q => ∃ d i, ds = [d] ∧ dIntOf d = some i ∧ Q (.int i) M
theorem c_int : DCall X (.type "int") rInt := by
  intro pins s σ H vs us Q I r ⟨ds, M, Q', l, m, ⟨d, i, e, h, q⟩, k⟩
  subst e
  obtain ⟨v, e, rv⟩ := repL_one l
  subst e
  have fin := k _ _ M H (.refl H) (.int _) m q
  cases rv with
  | int j =>
    cases h
    exact call_int1 pins s σ H _ us Q I r (.inl ⟨_, rfl, fin⟩)
  | bl b =>
    cases h
    exact call_int1 pins s σ H _ us Q I r (.inr ⟨b, rfl, fin⟩)
  | _ => cases h
def rGcd : DCR := fun ds M Q => ∃ i j : Int, ds = [.int i, .int j] ∧ Q (.int ((Nat.gcd i.natAbs j.natAbs : Nat) : Int)) M
theorem c_gcd : DCall X (.builtin "math.gcd") rGcd := by
  intro pins s σ H vs us Q I r ⟨ds, M, Q', l, m, ⟨i, j, e, q⟩, k⟩
  subst e
  obtain ⟨v, w, e, rv, rw'⟩ := repL_two l
  subst e
  cases rv
  cases rw'
  exact cr_gcd pins s σ H _ us Q I r ⟨i, j, rfl, k _ _ M H (.refl H) (.int _) m q⟩
/-- tuple(x), list(x) -/
def rTuple : DCR := fun ds M Q => ∃ d xs, ds = [d] ∧ dItems d M = some xs ∧ Q (.tup xs) M
theorem c_tuple : DCall X (.type "tuple") rTuple := by
  intro pins s σ H vs us Q I r ⟨ds, M, Q', l, m, ⟨d, xs, e, h, q⟩, k⟩
  subst e
  obtain ⟨v, e, rv⟩ := repL_one l
  subst e
  obtain ⟨a, ws, rfl, z, l, ⟨h4, _⟩ | ⟨h4, h5⟩⟩ := items_of rv m h
  · exact call_tuple_of pins s σ H _ us Q I r ⟨a, ws, rfl, .inl ⟨h4, fun p hp => k _ _ M _ (.new hp) (.tup (.of upd_same) z (l.grow (.new hp))) (m.new hp) q⟩⟩
  · subst h5
    exact call_tuple_of pins s σ H _ us Q I r ⟨a, ws, rfl, .inr ⟨h4, k _ _ M H (.refl H) rv m q⟩⟩
def rList : DCR := fun ds M Q => ∃ d xs, ds = [d] ∧ dItems d M = some xs ∧ ∀ p, M p = none → Q (.ref p) (mput M p (.lst xs))
theorem c_list : DCall X (.type "list") rList := by
  intro pins s σ H vs us Q I r ⟨ds, M, Q', l, m, ⟨d, xs, e, h, q⟩, k⟩
  subst e
  obtain ⟨v, e, rv⟩ := repL_one l
  subst e
  obtain ⟨a, ws, rfl, z, l, h4⟩ := items_of rv m h
  refine call_list_of pins s σ H _ us Q I r ⟨a, ws, rfl, h4.elim (fun y => .inl y.1) fun y => .inr y.1, fun p hp => ?_⟩
  exact k _ _ _ _ (.new hp) (.ref p) (m.newLst hp z l) (q p (m.free hp))
/-- isinstance -/
def dTyN : D → DM → Option String
  | .non, _ => some "NoneType"
  | .bl _, _ => some "bool"
  | .int _, _ => some "int"
  | .str _, _ => some "str"
  | .tup _, _ => some "tuple"
  | .lst _, _ => some "list"
  | .ref a, M => match M a with
    | some (.lst _) => some "list"
    | _ => none
  | _, _ => none
theorem ty_of {K : PySem.W.Frag} {H : Hp} {M : DM} {d : D} {v : V} {n : String} (r : Rep K H d v) (m : RM K H M) (h : dTyN d M = some n) : TyX K H v (.type n) := by
  cases r with
  | non => cases h; exact .base .non
  | bl b => cases h; exact .base (.bl b)
  | int i => cases h; exact .base (.int i)
  | str x => cases h; exact .base (.str x)
  | tup hs _ _ =>
    cases h
    rcases hs with (h | ⟨o, h⟩) | ⟨o, _, _, h1, h2, _⟩
    · exact .base (.tup h)
    · exact .fTuple h
    · exact .kTuple h1 h2
  | lst hs _ _ =>
    cases h
    rcases hs with ⟨o, h⟩ | ⟨o, _, _, h1, h2, _⟩
    · exact .base (.frz h)
    · exact .kList h1 h2
  | ref a =>
    have h' : (match M a with | some (.lst _) => some "list" | _ => none) = some n := h
    cases q : M a with
    | none => rw [q] at h'; cases h'
    | some o =>
      rw [q] at h'
      cases o with
      | lst ys =>
        cases h'
        obtain ⟨vs, h1, _⟩ := m.lst q
        exact .base (.lst h1)
      | dct _ => cases h'
  | ty _ => cases h
/-- the types that stand here -/
def subT (a b : String) : Bool := a == b || (a == "bool" && b == "int")
def knownT (a : String) : Bool := a == "NoneType" || a == "bool" || a == "int" || a == "str" || a == "tuple" || a == "list"
theorem kit_sub {a b : String} (ha : knownT a = true) (hb : knownT b = true) : kitB a b = some (subT a b) := by
  simp only [knownT, Bool.or_eq_true, beq_iff_eq] at ha hb
  rcases ha with ((((h | h) | h) | h) | h) | h <;> subst h <;> rcases hb with ((((h | h) | h) | h) | h) | h <;> subst h <;> decide +kernel
theorem tyN_known {d : D} {M : DM} {n : String} (h : dTyN d M = some n) : knownT n = true := by
  cases d with
  | ref a =>
    have h' : (match M a with | some (.lst _) => some "list" | _ => none) = some n := h
    cases q : M a with
    | none => rw [q] at h'; cases h'
    | some o =>
      rw [q] at h'
      cases o with
      | lst ys => cases h'; decide
      | dct _ => cases h'
  | dct _ => cases h
  | ty _ => cases h
  | _ => cases h; decide
def rIs : DCR := fun ds M Q => ∃ d T n, ds = [d, .ty T] ∧ knownT T = true ∧ dTyN d M = some n ∧ Q (.bl (subT n T)) M
theorem c_is : DCall X (.builtin "isinstance") rIs := by
  intro pins s σ H vs us Q I r ⟨ds, M, Q', l, m, ⟨d, T, n, e, hT, h, q⟩, k⟩
  subst e
  obtain ⟨v, w, e, rv, rw'⟩ := repL_two l
  subst e
  cases rw'
  exact call_isi pins s σ H _ us Q I r ⟨v, _, _, _, subT n T, rfl, .ty T, ty_of rv m h, kit_ty (kit_sub (tyN_known h) hT), k _ _ M H (.refl H) (.bl _) m q⟩
def tyNames : List D → Option (List String)
  | [] => some []
  | .ty T :: r => (tyNames r).map (T :: ·)
  | _ => none
theorem tyNames_map : ∀ {cs : List D} {Ts : List String}, tyNames cs = some Ts → cs = Ts.map D.ty
  | [], Ts, h => by
    cases h
    rfl
  | .ty T :: r, Ts, h => by
    have h' : (tyNames r).map (T :: ·) = some Ts := h
    cases q : tyNames r with
    | none => rw [q] at h'; cases h'
    | some Us =>
      rw [q] at h'
      cases h'
      rw [tyNames_map q]
      rfl
  | .non :: _, _, h => by cases h
  | .bl _ :: _, _, h => by cases h
  | .int _ :: _, _, h => by cases h
  | .str _ :: _, _, h => by cases h
  | .tup _ :: _, _, h => by cases h
  | .lst _ :: _, _, h => by cases h
  | .dct _ :: _, _, h => by cases h
  | .ref _ :: _, _, h => by cases h
def rIsT : DCR := fun ds M Q => ∃ (d : D) (cs : List D) (Ts : List String) (n : String), ds = [d, .tup cs] ∧ tyNames cs = some Ts ∧ Ts.all knownT = true ∧ dTyN d M = some n ∧ Q (.bl (Ts.any (subT n))) M
theorem kit_any {K : PySem.W.Frag} {n : String} (hn : knownT n = true) : ∀ {Ts : List String}, Ts.all knownT = true → PySem.W.kitAny K (.type n) (Ts.map Value.type) = some (Ts.any (subT n))
  | [], _ => kitAny_nil
  | T :: Ts, h => by
    rw [List.all_cons, Bool.and_eq_true] at h
    refine kitAny_cons (kit_ty (kit_sub hn h.1)) (fun e => ?_) fun e => ?_
    · rw [List.any_cons, e, Bool.false_or]
      exact kit_any hn h.2
    · rw [List.any_cons, e, Bool.true_or]
theorem ty_vals {K : PySem.W.Frag} {H : Hp} : ∀ {Ts : List String} {vs : List V} {its : List Value}, RepL K H (Ts.map D.ty) vs → Vals vs its → its = Ts.map Value.type
  | [], _, _, l, r => by
    cases l
    cases r
    rfl
  | T :: Ts, _, _, l, r => by
    cases l with
    | cons h t =>
      cases h
      cases r with
      | cons h2 t2 =>
        rw [ty_vals t t2, show _ = Value.type T from h2]
        rfl
theorem c_isT : DCall X (.builtin "isinstance") rIsT := by
  intro pins s σ H vs us Q I r ⟨ds, M, Q', l, m, ⟨d, cs, Ts, n, e, e0, hT, h, q⟩, k⟩
  subst e
  obtain ⟨v, w, e, rv, rw'⟩ := repL_two l
  subst e
  rw [tyNames_map e0] at rw'
  cases rw' with
  | tup hs _ l2 =>
    obtain ⟨u1, u2, rfl, r1, r2⟩ := vals2 r
    cases r2
    obtain ⟨P, Z, p, hx⟩ := kit_of I r1 (ty_of rv m h)
    obtain ⟨its, rr, ⟨⟨oc, od, dt, sl⟩, h1, h2, n', h3⟩, _⟩ := I.tuple hs
    simp only at h2 h3
    subst h2 h3
    have e3 := ty_vals l2 rr
    exact PySem.W.kia_tup Z I.kIn p h1 (by
      simp only [e3]
      exact kit_any (tyN_known h) hT) hx fun tk => ⟨.bl _, H, I.tok tk, rfl, k _ _ M H (.refl H) (.bl _) m q⟩
/-- both forms of isinstance -/
theorem DCall.or {f : Value} {r r' : DCR} (h : DCall X f r) (h' : DCall X f r') : DCall X f (fun ds M Q => r ds M Q ∨ r' ds M Q) := by
  intro pins s σ H vs us Q I rv z
  obtain ⟨ds, M, Q', l, m, q | q, k⟩ := z
  · exact h pins s σ H vs us Q I rv ⟨ds, M, Q', l, m, q, k⟩
  · exact h' pins s σ H vs us Q I rv ⟨ds, M, Q', l, m, q, k⟩
/-- a built-in type as a value -/
theorem d_ty {x : Str} {T : String} {pos : Pos} (hg : Gl X x) (hm : X.mg x = none) (hv : bootBuiltins x = some (.type T)) (hn : x ≠ "__name__" := by decide) (hd : (x == ("__debug__" : Str)) = false := by decide) : DE X (.Name x pos) (dC (.ty T)) :=
  d_c (v := .ty T) (pe_bltn hg hm hv rfl hn hd) fun _ _ => .ty T
/-- a module's constant -/
theorem d_gl {x : Str} {u : Value} {v : V} {d : D} {pos : Pos} (hg : Gl X x) (hm : X.mg x = some u) (rv : RelV v u) (hr : ∀ K H, Rep K H d v) (hd : (x == ("__debug__" : Str)) = false := by decide) : DE X (.Name x pos) (dC d) :=
  d_c (pe_glob hg hm rv hd) hr

/-! ### methods of lists -/
variable {o e : Expr} {es : List Expr} {to : DTE} {t : DTA} {name : Str} {apos cpos : Pos} {id : String}
abbrev DMR := D → List D → DM → DVK → Prop
def upM (K : PySem.W.Frag) (dr : DMR) : V → List V → Hp → VK → Prop := fun x vs H Q => ∃ d ds M Q', Rep K H d x ∧ RepL K H ds vs ∧ RM K H M ∧ dr d ds M Q' ∧
  ∀ d v M' H', Grow H H' → Rep K H' d v → RM K H' M' → Q' d M' → Q v H'
def dMt0 (dr : DMR) (to : DTE) : DTE := fun m M Q => to m M fun d M1 => (∃ xs, dItems d M1 = some xs ∧ d ≠ .tup xs) ∧ dr d [] M1 Q
def dMt (dr : DMR) (to : DTE) (t : DTA) : DTE := fun m M Q => to m M fun d M1 => (∃ xs, dItems d M1 = some xs ∧ d ≠ .tup xs) ∧ t m M1 fun ds M2 => dr d ds M2 Q
theorem tyV_lst {K : PySem.W.Frag} {H : Hp} {M : DM} {d : D} {v : V} (r : Rep K H d v) (m : RM K H M) (h : ∃ xs, dItems d M = some xs ∧ d ≠ .tup xs) : tyV K "list" v H := by
  obtain ⟨xs, h1, h2⟩ := h
  obtain ⟨a, vs, rfl, z, l, ⟨h4, _⟩ | ⟨_, h5⟩⟩ := items_of r m h1
  · exact .inl ⟨rfl, vs, h4⟩
  · exact absurd h5 h2
theorem d_mt0 {dr : DMR} (slot : Slot "list" name id) (hty : typeOf (.builtin id) = pure (.type "method_descriptor")) (hm : MtR X id (upM X.K dr)) (ho : DE X o to)
    (hbase : attributeBase o name X.env (eval o X.env) = eval o X.env := by rfl) (hline : (apos.endLine == cpos.line) = true := by rfl) : DE X (.Call (.Attribute o name apos) [] [] cpos) (dMt0 dr to) :=
  imE (pe_bm0 PySem.F.plainAttrs_list slot hty hm ho hbase hline) fun σ H Q ⟨m, M, Q', r, q, k⟩ => by
    refine ⟨m, M, _, r, q, fun d v M1 H1 g1 r1 m1 ⟨ty, q1⟩ => ⟨tyV_lst r1 m1 ty, d, [], M1, Q', r1, .nil, m1, q1, fun d v M2 H2 g2 => k d v M2 H2 (g1.trans g2)⟩⟩
theorem d_mt {dr : DMR} (slot : Slot "list" name id) (hty : typeOf (.builtin id) = pure (.type "method_descriptor")) (hm : MtR X id (upM X.K dr)) (ho : DE X o to) (ha : DA X (e :: es) t)
    (hbase : attributeBase o name X.env (eval o X.env) = eval o X.env := by rfl)
    (hfew : ((backTo cpos (starEach (e :: es) X.env)).all (fun x => !x.1) && (backToKw cpos (keywordEach [] X.env)).all (fun x => x.1.isSome)
      && decide ((e :: es).length + ([] : List Keyword).length + (if ([] : List Keyword).isEmpty then 0 else 1) < 30)) = true := by rfl)
    (hline : (apos.endLine == cpos.line) = true := by rfl) (hs : starEach (e :: es) X.env = (false, eval e X.env) :: starEach es X.env := by rfl) (hplain : (backTo cpos (starEach es X.env)).any (·.1) = false := by rfl) :
    DE X (.Call (.Attribute o name apos) (e :: es) [] cpos) (dMt dr to t) :=
  imE (pe_bm PySem.F.plainAttrs_list slot hty hm ho ha hbase hfew hline hs hplain) fun σ H Q ⟨m, M, Q', r, q, k⟩ => by
    refine ⟨m, M, _, r, q, fun d v M1 H1 g1 r1 m1 ⟨ty, q1⟩ => ⟨tyV_lst r1 m1 ty, m, M1, _, r.grow g1 m1, q1, fun ds vs M2 H2 g2 l2 m2 q2 => ?_⟩⟩
    exact ⟨d, ds, M2, Q', r1.grow g2, l2, m2, q2, fun d v M3 H3 g3 => k d v M3 H3 ((g1.trans g2).trans g3)⟩
def mAppend : DMR := fun d ds M Q => ∃ a xs y, d = .ref a ∧ ds = [y] ∧ M a = some (.lst xs) ∧ xs.length < sizeLine ∧ Q .non (mput M a (.lst (xs ++ [y])))
theorem m_append : MtR X "list.append" (upM X.K mAppend) := by
  intro pins s σ H x vs v us Q I rx rv ⟨d, ds, M, Q', r1, l, m, ⟨a, xs, y, e1, e2, h, hz, q⟩, k⟩
  subst e1
  subst e2
  cases r1
  obtain ⟨w, e, rw'⟩ := repL_one l
  subst e
  obtain ⟨ws, h1, z, l1⟩ := m.lst h
  refine mt_append pins s σ H _ _ v us Q I rx rv ⟨a, ws, w, rfl, rfl, h1, by rw [← l1.length]; exact hz, ?_⟩
  exact k _ _ _ _ (.put h1) .non (m.putLst h1 (by rw [List.length_append, ← l1.length]; exact hz) (l1.append (.one rw'))) q
def mPop : DMR := fun d ds M Q => ∃ a xs y, d = .ref a ∧ ds = [] ∧ M a = some (.lst xs) ∧ xs.getLast? = some y ∧ Q y (mput M a (.lst xs.dropLast))
theorem m_pop : MtR X "list.pop" (upM X.K mPop) := by
  intro pins s σ H x vs v us Q I rx rv ⟨d, ds, M, Q', r1, l, m, ⟨a, xs, y, e1, e2, h, hy, q⟩, k⟩
  subst e1
  subst e2
  cases r1
  cases l
  obtain ⟨ws, h1, z, l1⟩ := m.lst h
  rw [List.getLast?_eq_getElem?] at hy
  obtain ⟨w, h2, h3⟩ := l1.get hy
  rw [l1.length] at h2
  refine mt_pop pins s σ H _ _ v us Q I rx rv ⟨a, ws, w, rfl, rfl, h1, h2, ?_⟩
  exact k _ _ _ _ (.put h1) (h3.grow (.put h1)) (m.putLst h1 (by rw [List.length_dropLast]; omega) l1.dropLast) q
def mReverse : DMR := fun d ds M Q => ∃ a xs, d = .ref a ∧ ds = [] ∧ M a = some (.lst xs) ∧ Q .non (mput M a (.lst xs.reverse))
theorem m_reverse : MtR X "list.reverse" (upM X.K mReverse) := by
  intro pins s σ H x vs v us Q I rx rv ⟨d, ds, M, Q', r1, l, m, ⟨a, xs, e1, e2, h, q⟩, k⟩
  subst e1
  subst e2
  cases r1
  cases l
  obtain ⟨ws, h1, z, l1⟩ := m.lst h
  refine mt_reverse pins s σ H _ _ v us Q I rx rv ⟨a, ws, rfl, rfl, h1, ?_⟩
  exact k _ _ _ _ (.put h1) .non (m.putLst h1 (by rw [List.length_reverse]; exact z) l1.reverse) q
/-- xs[i] = v -/
def upSt (K : PySem.W.Frag) (t : D → D → D → DM → (DM → Prop) → Prop) : TSet := fun o i v H Q => ∃ d e y M Q', Rep K H d o ∧ Rep K H e i ∧ Rep K H y v ∧ RM K H M ∧ t d e y M Q' ∧
  ∀ M' H', Grow H H' → RM K H' M' → Q' M' → Q H'
abbrev DSet (X : Cx) (t : D → D → D → DM → (DM → Prop) → Prop) : Prop := PSet X (upSt X.K t)
def dSetL : D → D → D → DM → (DM → Prop) → Prop := fun o i v M Q => ∃ a xs k j, o = .ref a ∧ i = .int k ∧ M a = some (.lst xs) ∧ ixN xs.length k = some j ∧ Q (mput M a (.lst (xs.set j v)))
theorem s_lst : DSet X dSetL := by
  intro pins s σ H o i v ov iv u Q I ro ri rv ⟨d, e, y, M, Q', r1, r2, r3, m, ⟨a, xs, kk, j, e1, e2, h, hj, q⟩, k⟩
  subst e1
  subst e2
  cases r1
  cases r2
  obtain ⟨ws, h1, z, l1⟩ := m.lst h
  refine set_list pins s σ H _ _ v ov iv u Q I ro ri rv ⟨a, ws, kk, j, rfl, rfl, h1, by rw [← l1.length]; exact hj, ?_⟩
  exact k _ _ (.put h1) (m.putLst h1 (by rw [List.length_set]; exact z) (l1.set j r3)) q
/-- o[i] = e -/
def dPut (te to ti : DTE) (t : D → D → D → DM → (DM → Prop) → Prop) : DTS := fun Z m M => te m M fun v M1 => to m M1 fun d M2 => ti m M2 fun i M3 => t d i v M3 fun M4 => Z.nx m M4
theorem ds_put {i e : Expr} {te ti : DTE} {pos pos' : Pos} {tt : D → D → D → DM → (DM → Prop) → Prop} (he : DE X e te) (ho : DE X o to) (hi : DE X i ti) (hs : DSet X tt)
    (ha : ∀ v, assign (.Subscript o i pos) X.env v = (do
      let ov ← holding [v] (eval o X.env)
      let iv ← holding [v, ov] (eval i X.env)
      standAt pos
      holding [v, ov, iv] (setItem ov iv v)
      release [v, ov, iv] []) := by intro _; rfl)
    (hsw : swapsWithSole [.Subscript o i pos] e pos'.line X.env = pure false := by rfl) (hw : swappedStores [.Subscript o i pos] e X.env = pure none := by rfl)
    (h1 : (assignEach [.Subscript o i pos] X.env).map (·.2) = [assign (.Subscript o i pos) X.env] := by rfl) : DS X (.Assign [.Subscript o i pos] e pos') (dPut te to ti tt) :=
  imS (ps_asg he (pg_sub ho hi hs ha) hsw hw h1) fun Z σ H ⟨m, M, Z', r, q, k⟩ => by
    refine ⟨m, M, _, r, q, fun v x M1 H1 g1 r1 m1 q1 => ?_⟩
    refine ⟨m, M1, _, r.grow g1 m1, q1, fun d y M2 H2 g2 r2 m2 q2 => ?_⟩
    refine ⟨m, M2, _, r.grow (g1.trans g2) m2, q2, fun i z M3 H3 g3 r3 m3 q3 => ?_⟩
    refine ⟨d, i, v, M3, _, r2.grow g3, r3, r1.grow (g2.trans g3), m3, q3, fun M4 H4 g4 m4 q4 => ?_⟩
    have g := (g1.trans g2).trans (g3.trans g4)
    exact k.nx m M4 σ H4 g (r.grow g m4) q4
end
end DL
namespace DL
open PySem PySem.Spec PyProof.Rows L2
section
variable {X : Cx} {elt tg iter : Expr} {ifs : List Expr} {scope : Scope} {own : List (Str × Nat)} {pos spos py : Pos} {t : DTI} {g : DTG} {tt : DTT} {te : DTE} {ws : List Nat} {y : Str} {i : Nat}
/-- name = [..] on one line -/
theorem ds_setLc (hc : X.calm = true) (hN : X.N.Nodup) (hy : X.N[i]? = some y) (hyl : X.env.scope.names.lookup y = some .local)
    (hsw : swapsWith (.ListComp elt [⟨tg, iter, ifs, 0⟩] scope pos) (some (.Name y py)) spos.line X.env = pure true) (hi : DI X tg iter t) (ok : BlkOk X.N X.env.scope scope own) (hsub : ∀ i ∈ ws, i ∈ own.map (·.2))
    (hg : ∀ (s : Shared) (H : Hp) (C : Addr) (cl : List (Str × Addr)) (fp : List Addr), DG (X.blk s H scope (compEnvC scope cl C X.env) fp) ws tg g)
    (ht : ∀ (s : Shared) (H : Hp) (C : Addr) (cl : List (Str × Addr)) (fp : List Addr), DPTs (X.blk s H scope (compEnvC scope cl C X.env) fp) ifs tt)
    (he : ∀ (s : Shared) (H : Hp) (C : Addr) (cl : List (Str × Addr)) (fp : List Addr), DE (X.blk s H scope (compEnvC scope cl C X.env) fp) elt te)
    (hs : ∀ x, foldedSetIterable iter X.env x = pure x := by intro _; rfl) : DS X (.Assign [.Name y py] (.ListComp elt [⟨tg, iter, ifs, 0⟩] scope pos) spos) (dSet i (dLc t g tt te (own.map (·.2)))) :=
  imS (ps_setLc hc hN hy hyl hsw hi ok hg ht he hs) fun Z σ H ⟨m, M, Z', r, q, k⟩ =>
    lc_up (Qf := fun p _ M2 => Z'.nx (m.set i (some (.ref p))) M2) hsub (fun p acc ws M2 H2 g2 m2 _ _ _ _ q2 => k.nx _ M2 _ H2 g2 ((r.grow g2 m2).set (.ref p)) q2) m M r q
/-- behind a statement slot i's list is frozen -/
theorem ps_after {st : Stmt} {t : TS} (i : Nat) (h : PS X st t) : PS X st (fun Z σ H => t { Z with nx := fun σ' H' => ∃ p vs, σ'[i]? = some (some (.ref p)) ∧ H' p = some (.lst vs) ∧ ∀ o, Z.nx σ' (upd H' p (.frz o (.lst vs))) } σ H) := by
  refine ⟨fun pins s σ H Z I q => thn (h.run pins s σ H _ I q) fun f s1 q1 => ?_⟩
  cases f with
  | next =>
    obtain ⟨σ', H', I', p, vs, _, e2, q2⟩ := q1
    obtain ⟨o, I2⟩ := inv_frz I' e2
    exact ⟨σ', _, I2, q2 o⟩
  | ret v => exact q1
  | brk => exact q1
  | cont => exact q1
theorem ds_setLcF (hc : X.calm = true) (hN : X.N.Nodup) (hy : X.N[i]? = some y) (hyl : X.env.scope.names.lookup y = some .local)
    (hsw : swapsWith (.ListComp elt [⟨tg, iter, ifs, 0⟩] scope pos) (some (.Name y py)) spos.line X.env = pure true) (hi : DI X tg iter t) (ok : BlkOk X.N X.env.scope scope own) (hsub : ∀ i ∈ ws, i ∈ own.map (·.2))
    (hg : ∀ (s : Shared) (H : Hp) (C : Addr) (cl : List (Str × Addr)) (fp : List Addr), DG (X.blk s H scope (compEnvC scope cl C X.env) fp) ws tg g)
    (ht : ∀ (s : Shared) (H : Hp) (C : Addr) (cl : List (Str × Addr)) (fp : List Addr), DPTs (X.blk s H scope (compEnvC scope cl C X.env) fp) ifs tt)
    (he : ∀ (s : Shared) (H : Hp) (C : Addr) (cl : List (Str × Addr)) (fp : List Addr), DE (X.blk s H scope (compEnvC scope cl C X.env) fp) elt te)
    (hs : ∀ x, foldedSetIterable iter X.env x = pure x := by intro _; rfl) (hil : i < X.N.length := by decide) : DS X (.Assign [.Name y py] (.ListComp elt [⟨tg, iter, ifs, 0⟩] scope pos) spos) (dSet i (dLcF t g tt te (own.map (·.2)))) := by
  refine ⟨fun pins s σ H Z I h => (ps_after i (ps_setLc (wi := upI X.K t) (g := upG X.K ws g) (tt := upT X.K tt) (te := upE X.K te) hc hN hy hyl hsw hi ok hg ht he hs)).run pins s σ H Z I ?_⟩
  obtain ⟨m, M, Z', r, q, k⟩ := h
  have hσ : i < σ.length := by rw [I.len]; exact hil
  refine lc_up (Qf := fun p acc M2 => Z'.nx (m.set i (some (.lst acc))) (mdel M2 p)) hsub (fun p acc ws M2 H2 g2 m2 h8 z8 l8 _ q2 => ?_) m M r q
  refine ⟨p, ws, List.getElem?_set_self hσ, h8, fun o => k.nx _ _ _ _ (g2.trans (.put h8)) ?_ q2⟩
  exact (r.grow (g2.trans (.put h8)) (m2.frz h8)).set (.lst (.inl ⟨o, upd_same⟩) z8 (l8.grow (.put h8)))
theorem mput_self {M : DM} {a : Addr} {o : DO} (h : M a = some o) : mput M a o = M := by
  funext b
  unfold mput
  split
  · next e => rw [e, h]
  · rfl
end
end DL
namespace DL
open PySem PySem.Spec PyProof.Rows L2
/-! ### promises by the number of arguments -/
def ar0 (p : DM → DVK → Prop) : DSp := fun ds M Q => ds = [] ∧ p M Q
def ar1 (p : D → DM → DVK → Prop) : DSp := fun ds M Q => ∃ a, ds = [a] ∧ p a M Q
def ar2 (p : D → D → DM → DVK → Prop) : DSp := fun ds M Q => ∃ a b, ds = [a, b] ∧ p a b M Q
def ar3 (p : D → D → D → DM → DVK → Prop) : DSp := fun ds M Q => ∃ a b c, ds = [a, b, c] ∧ p a b c M Q
def ar4 (p : D → D → D → D → DM → DVK → Prop) : DSp := fun ds M Q => ∃ a b c d, ds = [a, b, c, d] ∧ p a b c d M Q
def ar5 (p : D → D → D → D → D → DM → DVK → Prop) : DSp := fun ds M Q => ∃ a b c d e, ds = [a, b, c, d, e] ∧ p a b c d e M Q
def ar6 (p : D → D → D → D → D → D → DM → DVK → Prop) : DSp := fun ds M Q => ∃ a b c d e f, ds = [a, b, c, d, e, f] ∧ p a b c d e f M Q
theorem len0 {p} {ds : List D} {M : DM} {Q : DVK} (h : ar0 p ds M Q) : ds.length = 0 := by obtain ⟨rfl, _⟩ := h; rfl
theorem len1 {p} {ds : List D} {M : DM} {Q : DVK} (h : ar1 p ds M Q) : ds.length = 1 := by obtain ⟨_, rfl, _⟩ := h; rfl
theorem len2 {p} {ds : List D} {M : DM} {Q : DVK} (h : ar2 p ds M Q) : ds.length = 2 := by obtain ⟨_, _, rfl, _⟩ := h; rfl
theorem len3 {p} {ds : List D} {M : DM} {Q : DVK} (h : ar3 p ds M Q) : ds.length = 3 := by obtain ⟨_, _, _, rfl, _⟩ := h; rfl
theorem len4 {p} {ds : List D} {M : DM} {Q : DVK} (h : ar4 p ds M Q) : ds.length = 4 := by obtain ⟨_, _, _, _, rfl, _⟩ := h; rfl
theorem len5 {p} {ds : List D} {M : DM} {Q : DVK} (h : ar5 p ds M Q) : ds.length = 5 := by obtain ⟨_, _, _, _, _, rfl, _⟩ := h; rfl
theorem len6 {p} {ds : List D} {M : DM} {Q : DVK} (h : ar6 p ds M Q) : ds.length = 6 := by obtain ⟨_, _, _, _, _, _, rfl, _⟩ := h; rfl
theorem hu_eq {k : Nat} {A : Around} (hr : Room k A) : A.units + 64 < cLine := hr.units
theorem hu_in {k : Nat} {A : Around} (hr : Room k A) : A.units + 65 < cLine := by
  have := hr.un
  omega
section
variable {P : Program} {w : World} {K : PySem.W.Frag} {mg : Str → Option Value} {base : Heap} {k : Nat} {x : Str} {ps N : List Str} {dsp : DSp} {st : Stmt}
/-- THE RULE for a def, its function object at hand -/
theorem fn_ok {f : Addr} {fd : FuncData} (F : Fun K x x st f fd) (S : FnScope N ps (defScope st)) (len : ∀ ds M Q, dsp ds M Q → ds.length = ps.length) {t : DTS}
    (body : ∀ (f : Addr) (cdv : Value) (A : Around) (outer : List Env) (s : Shared) (H : Hp) (E : XK), Room k (A.deeper (envOfC x (defScope st) s.heap.objs.size f cdv)) → DSs (Ctx P w K mg base N x st f cdv A outer s H E) (defBody st) t)
    (rd : ∀ ds M Q, dsp ds M Q → t (dEnds Q) (dstart N ds) M) : FnOk P w K mg base CX0 (k + 1) f fd ps (upSp K dsp) := by
  refine F.ok S (fun vs H Q E ⟨ds, M, Q', l, _, q, _⟩ => by rw [← l.length]; exact len ds M Q' q) (fun cdv A outer s H vs Q E hr ⟨ds, M, Q', l, m, q, kk⟩ => ?_)
  refine ⟨_, body f cdv A outer s H E hr, dstart N ds, M, dEnds Q', ⟨?_, fun i d e => start_slot l e, m⟩, rd ds M Q' q,
    ⟨fun m1 M1 σ1 H1 g1 r1 ⟨M0, le, q1⟩ => kk _ _ M0 H1 g1 .non (r1.mem.le le) q1, fun _ _ _ _ _ _ z => z.elim, fun _ _ _ _ _ _ z => z.elim, fun d v M1 H1 g1 r1 m1 ⟨M0, le, q1⟩ => kk d v M0 H1 g1 r1 (m1.le le) q1⟩⟩
  simp [dstart, L2.start, l.length]
end
/-- the law's own promise: for every list of at most 63 ints it gives True -/
def sp_law : DSp := ar1 fun a _ Q => ∃ ns : List Int, ns.length ≤ 63 ∧ a = .lst (ns.map D.int) ∧ ∀ M', Q (.bl true) M'
theorem law_start {K : PySem.W.Frag} {H : Hp} {a : Addr} {ns : List Int} {E : XK} (hl : ns.length ≤ 63) (hO : Only H) (hS : SqL K H a (ns.map V.int)) : upSp K sp_law [.ref a] H (fun v _ => v = .bl true) E := by
  have hz : (ns.map V.int).length ≤ sizeLine := by
    rw [List.length_map]
    have := sizeLine_eq
    omega
  have hf : FrzL K H a (ns.map V.int) := by
    rcases hS with (h | ⟨o, h⟩) | h
    · rcases hO a with z | ⟨o, xs, z⟩ <;> (rw [z] at h; cases h)
    · exact .inl ⟨o, h⟩
    · exact .inr h
  refine ⟨[.lst (ns.map D.int)], fun _ => none, fun d _ => d = .bl true, .one (.lst hf hz (repL_ints ns)), (fun b o e => nomatch e), ⟨_, rfl, ns, hl, rfl, fun _ => rfl⟩, fun d v M' H' _ r _ q => ?_⟩
  subst q
  cases r
  rfl
end DL
namespace DL
open PySem PySem.Spec PyProof.Rows L2
/-! ### what the readings' steps need, as rewriting -/
theorem eqv_int (i j : Int) : D.eqv (.int i) (.int j) = decide (i = j) := by
  simp [D.eqv, D.py, PyData.eqv, Bool.beq_eq_decide_eq]
theorem eqv_str (i j : Str) : D.eqv (.str i) (.str j) = decide (i = j) := by
  simp [D.eqv, D.py, PyData.eqv, Bool.beq_eq_decide_eq]
theorem eqv_bl (i j : Bool) : D.eqv (.bl i) (.bl j) = (i == j) := by
  simp [D.eqv, D.py, PyData.eqv]
theorem dItems_rf (a : Addr) (M : DM) : dItems (.ref a) M = match M a with
  | some (.lst xs) => some xs
  | _ => none := rfl
theorem dLenOf_tup (xs : List D) (M : DM) : dLenOf (.tup xs) M = some xs.length := rfl
theorem dLenOf_lst (xs : List D) (M : DM) : dLenOf (.lst xs) M = some xs.length := rfl
theorem dLenOf_rf (a : Addr) (M : DM) : dLenOf (.ref a) M = match M a with
  | some (.lst xs) => some xs.length
  | _ => none := rfl
theorem dLenOf_str (z : Str) (M : DM) : dLenOf (.str z) M = if z.length ≤ sizeLine then some z.length else none := rfl
theorem dTyN_non (M : DM) : dTyN .non M = some "NoneType" := rfl
theorem dTyN_bl (b : Bool) (M : DM) : dTyN (.bl b) M = some "bool" := rfl
theorem dTyN_int (b : Int) (M : DM) : dTyN (.int b) M = some "int" := rfl
theorem dTyN_str (b : Str) (M : DM) : dTyN (.str b) M = some "str" := rfl
theorem dTyN_tup (b : List D) (M : DM) : dTyN (.tup b) M = some "tuple" := rfl
theorem dTyN_lst (b : List D) (M : DM) : dTyN (.lst b) M = some "list" := rfl
theorem dTyN_rf (a : Addr) (M : DM) : dTyN (.ref a) M = match M a with
  | some (.lst _) => some "list"
  | _ => none := rfl
theorem dIntOf_int (i : Int) : dIntOf (.int i) = some i := rfl
theorem dIntOf_bl (b : Bool) : dIntOf (.bl b) = some (if b then 1 else 0) := rfl
theorem dAt_tup (xs : List D) : dAt (.tup xs) = none := rfl
theorem dAt_lst (xs : List D) : dAt (.lst xs) = none := rfl
theorem dAt_rf (a : Addr) : dAt (.ref a) = some a := rfl
theorem isN_non : D.isN .non = true := rfl
theorem isN_bl (b : Bool) : D.isN (.bl b) = false := rfl
theorem isN_int (b : Int) : D.isN (.int b) = false := rfl
theorem isN_str (b : Str) : D.isN (.str b) = false := rfl
theorem isN_tup (b : List D) : D.isN (.tup b) = false := rfl
theorem isN_lst (b : List D) : D.isN (.lst b) = false := rfl
theorem isN_rf (b : Addr) : D.isN (.ref b) = false := rfl
theorem eqv_non : D.eqv .non .non = true := by
  simp [D.eqv, D.py, PyData.eqv]
theorem eqv_refl {n : Nat} {d : D} (h : dOk n d = true) : D.eqv d d = true := PySem.SeqAt.eqv_refl _ (dOk_lay n d h).1
@[simp] theorem dOk_int (n : Nat) (i : Int) : dOk n (.int i) = true := by cases n <;> rfl
@[simp] theorem dOk_bl (n : Nat) (i : Bool) : dOk n (.bl i) = true := by cases n <;> rfl
@[simp] theorem dOk_non (n : Nat) : dOk n .non = true := by cases n <;> rfl
theorem dOk_str (n : Nat) (x : Str) : dOk n (.str x) = PyData.strOk x := by cases n <;> rfl
@[simp] theorem dOk_tup (n : Nat) (xs : List D) : dOk (n + 1) (.tup xs) = xs.all (dOk n) := rfl
@[simp] theorem dOk_lst (n : Nat) (xs : List D) : dOk (n + 1) (.lst xs) = xs.all (dOk n) := rfl
theorem atI_0 {α : Type} (x : α) (xs : List α) : atI (x :: xs) 0 = some x := atI_nat (j := 0) rfl
theorem atI_1 {α : Type} (x y : α) (xs : List α) : atI (x :: y :: xs) 1 = some y := atI_nat (j := 1) rfl
theorem atI_2 {α : Type} (x y z : α) (xs : List α) : atI (x :: y :: z :: xs) 2 = some z := atI_nat (j := 2) rfl
theorem atI_3 {α : Type} (x y z u : α) (xs : List α) : atI (x :: y :: z :: u :: xs) 3 = some u := atI_nat (j := 3) rfl
theorem atI_4 {α : Type} (x y z u v : α) (xs : List α) : atI (x :: y :: z :: u :: v :: xs) 4 = some v := atI_nat (j := 4) rfl
theorem atI_5 {α : Type} (x y z u v w : α) (xs : List α) : atI (x :: y :: z :: u :: v :: w :: xs) 5 = some w := atI_nat (j := 5) rfl
theorem atI_n {α : Type} (xs : List α) (n : Nat) : atI xs (n : Int) = xs[n]? := by
  unfold atI ixN
  rw [if_pos (by omega)]
  by_cases h : n < xs.length
  · rw [if_pos (by omega)]
    simp
  · rw [if_neg (by omega), List.getElem?_eq_none (by omega)]
    rfl
theorem atI_neg1 {α : Type} (xs : List α) : atI xs (-1) = xs.getLast? := by
  cases xs with
  | nil => rfl
  | cons x r =>
    rw [List.getLast?_eq_getElem?]
    unfold atI ixN
    rw [if_neg (by omega), if_pos (by rw [List.length_cons]; omega)]
    show (x :: r)[(-1 + ((x :: r).length : Int)).toNat]? = _
    congr 1
    rw [List.length_cons]
    omega
/-! ### sizes -/
/-- x has at most B bits -/
def Ab (B : Nat) (x : Int) : Prop := x.natAbs < 2 ^ B
theorem Ab.mono {a b : Nat} {x : Int} (h : Ab a x) (l : a ≤ b) : Ab b x := Nat.lt_of_lt_of_le h (Nat.pow_le_pow_right (by decide) l)
theorem Ab.mul {a b : Nat} {x y : Int} (h : Ab a x) (k : Ab b y) : Ab (a + b) (x * y) := wide_lt h k
theorem Ab.add {a : Nat} {x y : Int} (h : Ab a x) (k : Ab a y) : Ab (a + 1) (x + y) := by
  unfold Ab at h k ⊢
  have := Int.natAbs_add_le x y
  rw [Nat.pow_succ]
  omega
theorem Ab.sub {a : Nat} {x y : Int} (h : Ab a x) (k : Ab a y) : Ab (a + 1) (x - y) := by
  unfold Ab at h k ⊢
  have : (x - y).natAbs ≤ x.natAbs + y.natAbs := by omega
  rw [Nat.pow_succ]
  omega
theorem Ab.neg {a : Nat} {x : Int} (h : Ab a x) : Ab a (-x) := by
  unfold Ab at h ⊢
  rw [Int.natAbs_neg]
  exact h
theorem Ab.cmul {a b : Nat} {x y : Int} (h : Ab a x) (k : Ab b y) (l : a + b ≤ 999998) : CMulA x y :=
  .inr <| .inr <| wide_mul (h.mono (Nat.le_succ a)) (k.mono (Nat.le_succ b)) (by omega) (by omega) (by omega)
theorem Ab.cdiv {a : Nat} {x y : Int} (h : Ab a y) (p : 0 < y) (l : a ≤ 8999) : CDivA x y := .inr <| wide_div p (h.mono (Nat.le_succ a)) (by omega) (by omega)
theorem Ab.le {a : Nat} {x y : Int} (h : Ab a y) (h0 : 0 ≤ x) (l : x ≤ y) : Ab a x := wide_le h0 l h
theorem Ab.small {x : Int} (h : -1024 < x) (k : x < 1024) : Ab 10 x := by
  unfold Ab
  omega
theorem Ab.of {a : Nat} {x : Int} (h : x.natAbs < 2 ^ a) : Ab a x := h

/-! ### loops, by what holds of the items that are left -/
theorem for_ind {src : Src} {g : DTG} {tb : DTS} {Z : DEnds} (V : List D → DSt → DM → Prop) (fin : ∀ m M, V [] m M → SrcV src M ∧ Z.nx m M)
    (step : ∀ d ds m M (Cn : DSt → DM → Prop), (∀ m' M', V ds m' M' → Cn m' M') → V (d :: ds) m M → SrcV src M ∧ g d m M fun m1 M1 => tb { Z with nx := fg Cn, ct := fg Cn, bk := Z.nx } m1 M1) :
    ∀ ds m M, V ds m M → dForGo src g tb Z ds m M
  | [], m, M, h => fin m M h
  | d :: ds, m, M, h => step d ds m M (dForGo src g tb Z ds) (for_ind V fin step ds) h
theorem lc_ind {src : Src} {g : DTG} {tt : DTT} {te : DTE} {m0 : DSt} {p : Addr} {Qd : List D → DM → Prop} (V : List D → List D → DM → Prop) (fin : ∀ acc M, V [] acc M → SrcV src M ∧ Qd acc M)
    (step : ∀ d ds acc M (Cn : List D → DM → Prop), (∀ acc' M', V ds acc' M' → Cn acc' M') → V (d :: ds) acc M → SrcV src M ∧ g d m0 M fun m1 M1 => tt m1 M1 fun b M2 =>
      if b = true then te m1 M2 fun y M3 => M3 p = some (.lst acc) ∧ Cn (acc ++ [y]) (mput M3 p (.lst (acc ++ [y]))) else M2 p = some (.lst acc) ∧ Cn acc M2) :
    ∀ ds acc M, V ds acc M → dLcGo src g tt te m0 p Qd ds acc M
  | [], acc, M, h => fin acc M h
  | d :: ds, acc, M, h => step d ds acc M (dLcGo src g tt te m0 p Qd ds) (lc_ind V fin step ds) h
theorem mput_le {M N : DM} {p : Addr} {o : DO} (l : MLe M N) (h : M p = none) : MLe M (mput N p o) := l.put h
/-- a comprehension whose tests and elements change nothing: over e x for the x of xs -/
theorem lcGo_pure {α : Type} {src : Src} {g : DTG} {tt : DTT} {te : DTE} {m0 : DSt} {p : Addr} {Qd : List D → DM → Prop} {M1 : DM} (e : α → D) (pr : α → Bool) (f : α → D) (hp : M1 p = none) (sv : SrcV src M1) :
    ∀ (xs : List α) (step : ∀ x ∈ xs, ∀ M, MLe M1 M → ∀ (C1 : D → DM → Prop) (C2 : DM → Prop), (pr x = true → C1 (f x) M) → (pr x = false → C2 M) → g (e x) m0 M fun m1 M1 => tt m1 M1 fun b M2 => if b = true then te m1 M2 C1 else C2 M2)
      (acc : List D), Qd (acc ++ (xs.filter pr).map f) (mput M1 p (.lst (acc ++ (xs.filter pr).map f))) → dLcGo src g tt te m0 p Qd (xs.map e) acc (mput M1 p (.lst acc))
  | [], _, acc, h => ⟨fun a e => MLe.put (.refl M1) hp a _ (sv a e), by simpa using h⟩
  | x :: xs, step, acc, h => by
    refine ⟨fun a e => MLe.put (.refl M1) hp a _ (sv a e), step x (by simp) _ (MLe.put (.refl M1) hp) _ _ (fun e => ⟨mput_same, ?_⟩) fun e => ⟨mput_same, ?_⟩⟩
    · rw [mput_mput]
      refine lcGo_pure _ pr f hp sv xs (fun d' h' => step d' (by simp [h'])) _ ?_
      rw [List.filter_cons_of_pos e, List.map_cons] at h
      simpa using h
    · refine lcGo_pure _ pr f hp sv xs (fun d' h' => step d' (by simp [h'])) _ ?_
      rw [List.filter_cons_of_neg (by simp [e])] at h
      exact h
theorem filter_all {α : Type} : ∀ l : List α, l.filter (fun _ => true) = l
  | [] => rfl
  | x :: l => by rw [List.filter_cons_of_pos rfl, filter_all l]
theorem lc_pure {α : Type} {src : Src} {g : DTG} {tt : DTT} {te : DTE} {m0 : DSt} {Qd : Addr → List D → DM → Prop} {M1 : DM} (xs : List α) (e : α → D) (pr : α → Bool) (f : α → D) (hx : src.1 = xs.map e) (sv : SrcV src M1)
    (step : ∀ x ∈ xs, ∀ M, MLe M1 M → ∀ (C1 : D → DM → Prop) (C2 : DM → Prop), (pr x = true → C1 (f x) M) → (pr x = false → C2 M) → g (e x) m0 M fun m1 M1 => tt m1 M1 fun b M2 => if b = true then te m1 M2 C1 else C2 M2)
    (h : ∀ p, M1 p = none → Qd p ((xs.filter pr).map f) (mput M1 p (.lst ((xs.filter pr).map f)))) : ∀ p, M1 p = none → dLcGo src g tt te m0 p (Qd p) src.1 [] (mput M1 p (.lst [])) := fun p hp => by
  have z := lcGo_pure (Qd := Qd p) e pr f hp sv xs step [] (by rw [List.nil_append]; exact h p hp)
  rw [← hx] at z
  exact z
/-- .. without a test -/
theorem lc_map {α : Type} {src : Src} {g : DTG} {te : DTE} {m0 : DSt} {Qd : Addr → List D → DM → Prop} {M1 : DM} (xs : List α) (e : α → D) (f : α → D) (hx : src.1 = xs.map e) (sv : SrcV src M1)
    (step : ∀ x ∈ xs, ∀ M, MLe M1 M → ∀ (C1 : D → DM → Prop), C1 (f x) M → g (e x) m0 M fun m1 M1 => te m1 M1 C1)
    (h : ∀ p, M1 p = none → Qd p (xs.map f) (mput M1 p (.lst (xs.map f)))) : ∀ p, M1 p = none → dLcGo src g dYes te m0 p (Qd p) src.1 [] (mput M1 p (.lst [])) :=
  lc_pure xs e (fun _ => true) f hx sv (fun x hd M l C1 C2 h1 _ => step x hd M l C1 (h1 rfl)) (by rw [filter_all]; exact h)
theorem seq_i {t u : DTS} {Z : DEnds} {m : DSt} {M : DM} (h : t { Z with nx := u Z } m M) : dSeq t u Z m M := h
/-- behind a statement with several ends: what holds at each of them -/
theorem seq_cut {t u : DTS} {Z : DEnds} {m : DSt} {M : DM} (P : DSt → DM → Prop) (h1 : ∀ Cn : DSt → DM → Prop, (∀ m' M', P m' M' → Cn m' M') → t { Z with nx := Cn } m M) (h2 : ∀ m' M', P m' M' → u Z m' M') : dSeq t u Z m M := h1 (u Z) h2
theorem MLe.trans {M N O : DM} (h : MLe M N) (k : MLe N O) : MLe M O := fun a o e => k a o (h a o e)
/-- what is new, and what stood -/
theorem MLe.with {M N : DM} {a : Addr} {o : DO} (l : MLe M N) (h : N a = some o) : MLe (mput M a o) N := fun b p e => by
  by_cases hb : b = a
  · subst hb
    rw [mput_same] at e
    cases e
    exact h
  · rw [mput_ne hb] at e
    exact l b p e
/-- a store to what is new -/
theorem MLe.store {M N : DM} {a : Addr} {o : DO} (l : MLe M N) (h : M a = none) : MLe M (mput N a o) := l.put h
theorem ne_of_fresh {M : DM} {a b : Addr} {o : DO} (h : M a = some o) (k : M b = none) : a ≠ b := fun e => by
  rw [e, k] at h
  cases h
theorem atI_lt {α : Type} {xs : List α} {i : Int} (h0 : 0 ≤ i) (h1 : i < xs.length) : ∃ x, x ∈ xs ∧ atI xs i = some x := by
  obtain ⟨n, rfl⟩ : ∃ n : Nat, i = n := ⟨i.toNat, by omega⟩
  have hn : n < xs.length := by omega
  exact ⟨xs[n], List.getElem_mem hn, by rw [atI_n, List.getElem?_eq_getElem hn]⟩
theorem atI_map {α β : Type} (f : α → β) (xs : List α) (i : Int) : atI (xs.map f) i = (atI xs i).map f := by
  unfold atI
  rw [List.length_map]
  cases ixN xs.length i with
  | none => rfl
  | some j => simp
theorem ixN_lt {n : Nat} {i : Int} (h0 : 0 ≤ i) (h1 : i < n) : ixN n i = some i.toNat := by
  unfold ixN
  rw [if_pos h0, if_pos h1]
theorem items_put {M : DM} {p : Addr} {o : DO} {d : D} (h : d ≠ .ref p) : dItems d (mput M p o) = dItems d M := by
  cases d with
  | ref a =>
    have : a ≠ p := fun e => h (e ▸ rfl)
    simp only [dItems, mput_ne this]
  | _ => rfl
/-- the empty promise -/
theorem Def.nil {P : Program} {w : World} {K : PySem.W.Frag} {mg : Str → Option Value} {base : Heap} {k : Nat} {x : Str} {ps : List Str} {st : Stmt} (F : Def K mg x st ps) : Cal P w K mg base k x ps (fun _ _ _ => False) := by
  obtain ⟨f, fd, F, hm, hb⟩ := F.ex
  exact ⟨f, fd, ⟨fun _ _ _ _ ⟨_, _, _, _, _, z, _⟩ => z.elim, fun _ _ _ _ _ _ _ _ _ _ _ _ _ ⟨_, _, _, _, _, z, _⟩ => z.elim⟩, hm, F.kp, hb⟩
/-- a list of draws: ints, whichever -/
def DrO (o : DO) : Prop := ∃ ks : List Int, o = .lst (ks.map D.int)
def Dr (M : DM) (p : Addr) : Prop := ∃ o, M p = some o ∧ DrO o
theorem dr_put {M : DM} {p : Addr} {o : DO} (h : DrO o) : Dr (mput M p o) p := ⟨o, mput_same, h⟩
theorem dr_at {M : DM} {p : Addr} {o : DO} (h : DrO o) (e : M p = some o) : Dr M p := ⟨o, e, h⟩
theorem dr_ne {M : DM} {p q : Addr} {o : DO} (h : Dr M p) (e : p ≠ q) : Dr (mput M q o) p := let ⟨o', h1, h2⟩ := h; ⟨o', by rw [mput_ne e]; exact h1, h2⟩
theorem Dr.le {M N : DM} {p : Addr} (h : Dr M p) (l : MLe M N) : Dr N p := let ⟨o, h1, h2⟩ := h; ⟨o, l _ _ h1, h2⟩
theorem Dr.some {M : DM} {p q : Addr} (h : Dr M p) (k : M q = none) : p ≠ q := let ⟨_, h1, _⟩ := h; ne_of_fresh h1 k
theorem srcV_none {xs : List D} {M : DM} : SrcV (xs, none) M := fun _ e => nomatch e
theorem fz_new {xs : List D} {M : DM} {Q : DVK} (h : Q (.lst xs) M) : ∀ p, M p = none → ∃ p' ds, D.ref p = .ref p' ∧ mput M p (.lst xs) p' = some (.lst ds) ∧ Q (.lst ds) (mdel (mput M p (.lst xs)) p') := fun p hp =>
  ⟨p, xs, rfl, mput_same, by rw [mdel_mput hp]; exact h⟩
end DL
namespace Law
open PySem PySem.Spec PyProof.Rows L2 DL
local macro_rules | `(tactic| walk_at "rd") => `(tactic| simp only [dSeq, dSet, dIf, dTst, dOp, dVar, dC, dRet, dRetN, dNext, dDrop, dBreak, dCont, dAnd, dOr, dNot, dAndV, dOrV, dNotV, dIfE, dTup, dLstF, dLst, dCons, dNil, dCB, dCall, dUn, dNegI,
  dI, dI0, dEq, dNe, dIs, dIsNot, dIn, dNotIn, dIx, isN_non, isN_bl, isN_int, isN_str, isN_tup, isN_lst, isN_rf, rLen, rInt, rAbs, rMax2, rMin2, DL.rGcd, rTuple, rList, rIs, rIsT, ar0, ar1, ar2, ar3, ar4, ar5, ar6, dEnds, dMt, dMt0, mAppend, mPop, mReverse, dSetL, dPut, dAsg, dgName, dgTup, dgCons, dgNil,
  dFor, diSeq, diRng1, diRng2, dLcF, dLc, dwipe, dFz,
  dstart, List.map_cons, List.map_nil, List.length_cons, List.length_nil, List.cons_append, List.nil_append, List.append_nil, List.replicate, Nat.reduceAdd, Nat.reduceSub, Nat.reduceLeDiff, Int.reduceNeg, List.set_cons_zero, List.set_cons_succ,
  List.getElem?_cons_zero, List.getElem?_cons_succ, Option.some.injEq, exists_eq_left', exists_eq_left, exists_eq_right, exists_eq, exists_and_left, exists_and_right, D.int.injEq, D.bl.injEq, D.str.injEq, D.tup.injEq, D.lst.injEq, D.ref.injEq, D.ty.injEq,
  List.cons.injEq, and_assoc, and_true, true_and, and_self, reduceCtorEq, false_and, and_false, if_true, if_false, if_pos, ite_true, ite_false, Bool.false_eq_true, decide_eq_true_eq, Bool.not_eq_true', decide_eq_false_iff_not, Bool.not_true, Bool.not_false, decide_true, decide_false,
  eqv_int, eqv_str, eqv_bl, dOk_int, dOk_bl, dOk_non, dOk_tup, dOk_lst, dOk_str, List.all_cons, List.all_nil, Bool.and_true, Bool.true_and, Bool.and_self, dItems_tup, dItems_lst, dItems_rf, CMulA, CDivA, CPowA, Int.reduceLT, Int.reduceLE, Int.reducePow, Int.reduceToNat, Int.reduceMul, Int.reduceAdd, Int.reduceSub, Nat.reducePow, true_or, or_true, ne_eq, not_false_eq_true, not_true_eq_false, dAt_tup, dAt_lst, dAt_rf, dLenOf_tup, dLenOf_lst, dLenOf_rf, dLenOf_str, dTyN_non, dTyN_bl, dTyN_int, dTyN_str, dTyN_tup, dTyN_lst, dTyN_rf, dIntOf_int, dIntOf_bl, knownT, subT, atI_0, atI_1, atI_2, atI_3, atI_4, atI_5, atI_neg1, mput_same, mput_mput, eqv_non, tyNames, Option.map_some, String.reduceBEq, Bool.or_true, Bool.true_or, Bool.or_false, Bool.false_or, Bool.false_and, Bool.and_false, beq_self_eq_true, BEq.rfl, List.any_cons, List.any_nil, sizeLine_eq, rLenB, Bool.true_eq_false, implies_true, Nat.zero_le, Bool.or_self, String.reduceEq])
local macro_rules | `(tactic| walk_at "st") => `(tactic| (refine seq_i ?_; simp only [dSet, dIf, dTst, dOp, dVar, dC, dRet, dRetN, dNext, dDrop, dBreak, dCont, dAnd, dOr, dNot, dAndV, dOrV, dNotV, dIfE, dTup, dLstF, dLst, dCons, dNil, dCB, dCall, dUn, dNegI,
  dI, dI0, dEq, dNe, dIs, dIsNot, dIn, dNotIn, dIx, isN_non, isN_bl, isN_int, isN_str, isN_tup, isN_lst, isN_rf, rLen, rInt, rAbs, rMax2, rMin2, DL.rGcd, rTuple, rList, rIs, rIsT, ar0, ar1, ar2, ar3, ar4, ar5, ar6, dEnds, dMt, dMt0, mAppend, mPop, mReverse, dSetL, dPut, dAsg, dgName, dgTup, dgCons, dgNil,
  dFor, diSeq, diRng1, diRng2, dLcF, dLc, dwipe, dFz,
  dstart, List.map_cons, List.map_nil, List.length_cons, List.length_nil, List.cons_append, List.nil_append, List.append_nil, List.replicate, Nat.reduceAdd, Nat.reduceSub, Nat.reduceLeDiff, Int.reduceNeg, List.set_cons_zero, List.set_cons_succ,
  List.getElem?_cons_zero, List.getElem?_cons_succ, Option.some.injEq, exists_eq_left', exists_eq_left, exists_eq_right, exists_eq, exists_and_left, exists_and_right, D.int.injEq, D.bl.injEq, D.str.injEq, D.tup.injEq, D.lst.injEq, D.ref.injEq, D.ty.injEq,
  List.cons.injEq, and_assoc, and_true, true_and, and_self, reduceCtorEq, false_and, and_false, if_true, if_false, if_pos, ite_true, ite_false, Bool.false_eq_true, decide_eq_true_eq, Bool.not_eq_true', decide_eq_false_iff_not, Bool.not_true, Bool.not_false, decide_true, decide_false,
  eqv_int, eqv_str, eqv_bl, dOk_int, dOk_bl, dOk_non, dOk_tup, dOk_lst, dOk_str, List.all_cons, List.all_nil, Bool.and_true, Bool.true_and, Bool.and_self, dItems_tup, dItems_lst, dItems_rf, CMulA, CDivA, CPowA, Int.reduceLT, Int.reduceLE, Int.reducePow, Int.reduceToNat, Int.reduceMul, Int.reduceAdd, Int.reduceSub, Nat.reducePow, true_or, or_true, ne_eq, not_false_eq_true, not_true_eq_false, dAt_tup, dAt_lst, dAt_rf, dLenOf_tup, dLenOf_lst, dLenOf_rf, dLenOf_str, dTyN_non, dTyN_bl, dTyN_int, dTyN_str, dTyN_tup, dTyN_lst, dTyN_rf, dIntOf_int, dIntOf_bl, knownT, subT, atI_0, atI_1, atI_2, atI_3, atI_4, atI_5, atI_neg1, mput_same, mput_mput, eqv_non, tyNames, Option.map_some, String.reduceBEq, Bool.or_true, Bool.true_or, Bool.or_false, Bool.false_or, Bool.false_and, Bool.and_false, beq_self_eq_true, BEq.rfl, List.any_cons, List.any_nil, sizeLine_eq, rLenB, Bool.true_eq_false, implies_true, Nat.zero_le, Bool.or_self, String.reduceEq]))
local macro_rules | `(tactic| walk_at "p") => `(tactic| simp only [dRet, dOp, dVar, dCall, dCB, dCons, dNil, ar0, ar1, ar2, ar3, ar4, ar5, rLen, dIx, dEnds, dstart, List.map_cons, List.map_nil, List.length_cons, List.length_nil, List.cons_append, List.nil_append, List.replicate, Nat.reduceAdd, Nat.reduceSub, Nat.reduceLeDiff, List.getElem?_cons_zero, List.getElem?_cons_succ, Option.some.injEq, exists_eq_left', exists_eq_left, exists_and_left, exists_and_right, List.cons.injEq, and_assoc, and_true, true_and, D.ref.injEq, D.int.injEq])
local macro_rules | `(tactic| walk_at "s1") => `(tactic| simp only [dSet, dIf, dTst, dOp, dVar, dC, dRet, dRetN, dNext, dDrop, dBreak, dCont, dAnd, dOr, dNot, dAndV, dOrV, dNotV, dIfE, dTup, dLstF, dLst, dCons, dNil, dCB, dCall, dUn, dNegI,
  dI, dI0, dEq, dNe, dIs, dIsNot, dIn, dNotIn, dIx, isN_non, isN_bl, isN_int, isN_str, isN_tup, isN_lst, isN_rf, rLen, rInt, rAbs, rMax2, rMin2, DL.rGcd, rTuple, rList, rIs, rIsT, ar0, ar1, ar2, ar3, ar4, ar5, ar6, dEnds, dMt, dMt0, mAppend, mPop, mReverse, dSetL, dPut, dAsg, dgName, dgTup, dgCons, dgNil,
  dFor, diSeq, diRng1, diRng2, dLcF, dLc, dwipe, dFz,
  dstart, List.map_cons, List.map_nil, List.length_cons, List.length_nil, List.cons_append, List.nil_append, List.append_nil, List.replicate, Nat.reduceAdd, Nat.reduceSub, Nat.reduceLeDiff, Int.reduceNeg, List.set_cons_zero, List.set_cons_succ,
  List.getElem?_cons_zero, List.getElem?_cons_succ, Option.some.injEq, exists_eq_left', exists_eq_left, exists_eq_right, exists_eq, exists_and_left, exists_and_right, D.int.injEq, D.bl.injEq, D.str.injEq, D.tup.injEq, D.lst.injEq, D.ref.injEq, D.ty.injEq,
  List.cons.injEq, and_assoc, and_true, true_and, and_self, reduceCtorEq, false_and, and_false, if_true, if_false, if_pos, ite_true, ite_false, Bool.false_eq_true, decide_eq_true_eq, Bool.not_eq_true', decide_eq_false_iff_not, Bool.not_true, Bool.not_false, decide_true, decide_false,
  eqv_int, eqv_str, eqv_bl, dOk_int, dOk_bl, dOk_non, dOk_tup, dOk_lst, dOk_str, List.all_cons, List.all_nil, Bool.and_true, Bool.true_and, Bool.and_self, dItems_tup, dItems_lst, dItems_rf, CMulA, CDivA, CPowA, Int.reduceLT, Int.reduceLE, Int.reducePow, Int.reduceToNat, Int.reduceMul, Int.reduceAdd, Int.reduceSub, Nat.reducePow, true_or, or_true, ne_eq, not_false_eq_true, not_true_eq_false, dAt_tup, dAt_lst, dAt_rf, dLenOf_tup, dLenOf_lst, dLenOf_rf, dLenOf_str, dTyN_non, dTyN_bl, dTyN_int, dTyN_str, dTyN_tup, dTyN_lst, dTyN_rf, dIntOf_int, dIntOf_bl, knownT, subT, atI_0, atI_1, atI_2, atI_3, atI_4, atI_5, atI_neg1, mput_same, mput_mput, eqv_non, tyNames, Option.map_some, String.reduceBEq, Bool.or_true, Bool.true_or, Bool.or_false, Bool.false_or, Bool.false_and, Bool.and_false, beq_self_eq_true, BEq.rfl, List.any_cons, List.any_nil, sizeLine_eq, rLenB, Bool.true_eq_false, implies_true, Nat.zero_le, Bool.or_self, String.reduceEq])
section
variable {P : Program} {w : World} {K : PySem.W.Frag} {mg : Str → Option Value} {base : Heap}
def topS (i : Nat) : Stmt := PySem.Challenge.pw_doubtbook_k06_fractions.main.body.getD i (.Pass ⟨0, 0, 0, 0⟩)
abbrev s_compare_keys : Stmt := topS 2
abbrev N_compare_keys : List Str := ["one", "other"]
theorem sc_compare_keys : FnScope N_compare_keys ["one", "other"] (defScope s_compare_keys) := ⟨rfl, rfl, rfl, by decide +kernel, rfl, by decide +kernel, by decide +kernel⟩
abbrev s_fraction : Stmt := topS 4
abbrev N_fraction : List Str := ["n", "d", "divisor"]
theorem sc_fraction : FnScope N_fraction ["n", "d"] (defScope s_fraction) := ⟨rfl, rfl, rfl, by decide +kernel, rfl, by decide +kernel, by decide +kernel⟩
abbrev s_add : Stmt := topS 5
abbrev N_add : List Str := ["f", "g"]
theorem sc_add : FnScope N_add ["f", "g"] (defScope s_add) := ⟨rfl, rfl, rfl, by decide +kernel, rfl, by decide +kernel, by decide +kernel⟩
abbrev s_subtract : Stmt := topS 6
abbrev N_subtract : List Str := ["f", "g"]
theorem sc_subtract : FnScope N_subtract ["f", "g"] (defScope s_subtract) := ⟨rfl, rfl, rfl, by decide +kernel, rfl, by decide +kernel, by decide +kernel⟩
abbrev s_multiply : Stmt := topS 7
abbrev N_multiply : List Str := ["f", "g"]
theorem sc_multiply : FnScope N_multiply ["f", "g"] (defScope s_multiply) := ⟨rfl, rfl, rfl, by decide +kernel, rfl, by decide +kernel, by decide +kernel⟩
abbrev s_divide : Stmt := topS 8
abbrev N_divide : List Str := ["f", "g"]
theorem sc_divide : FnScope N_divide ["f", "g"] (defScope s_divide) := ⟨rfl, rfl, rfl, by decide +kernel, rfl, by decide +kernel, by decide +kernel⟩
abbrev s_compare_fractions : Stmt := topS 9
abbrev N_compare_fractions : List Str := ["f", "g"]
theorem sc_compare_fractions : FnScope N_compare_fractions ["f", "g"] (defScope s_compare_fractions) := ⟨rfl, rfl, rfl, by decide +kernel, rfl, by decide +kernel, by decide +kernel⟩
abbrev s_l_draws : Stmt := topS 11
abbrev N_l_draws : List Str := ["script", "many", "cells", "left", "draws", "k", "place", "mixed", "cell"]
theorem sc_l_draws : FnScope N_l_draws ["script", "many"] (defScope s_l_draws) := ⟨rfl, rfl, rfl, by decide +kernel, rfl, by decide +kernel, by decide +kernel⟩
abbrev s_l_take : Stmt := topS 12
abbrev N_l_take : List Str := ["draws", "many"]
theorem sc_l_take : FnScope N_l_take ["draws", "many"] (defScope s_l_take) := ⟨rfl, rfl, rfl, by decide +kernel, rfl, by decide +kernel, by decide +kernel⟩
abbrev s_l_pick : Stmt := topS 13
abbrev N_l_pick : List Str := ["draws", "row"]
theorem sc_l_pick : FnScope N_l_pick ["draws", "row"] (defScope s_l_pick) := ⟨rfl, rfl, rfl, by decide +kernel, rfl, by decide +kernel, by decide +kernel⟩
abbrev s_l_same : Stmt := topS 14
abbrev N_l_same : List Str := ["actual", "due", "k"]
theorem sc_l_same : FnScope N_l_same ["actual", "due"] (defScope s_l_same) := ⟨rfl, rfl, rfl, by decide +kernel, rfl, by decide +kernel, by decide +kernel⟩
abbrev s_l_lowest : Stmt := topS 15
abbrev N_l_lowest : List Str := ["n", "d", "a", "b", "k", "rest"]
theorem sc_l_lowest : FnScope N_l_lowest ["n", "d"] (defScope s_l_lowest) := ⟨rfl, rfl, rfl, by decide +kernel, rfl, by decide +kernel, by decide +kernel⟩
abbrev s_l_integer : Stmt := topS 16
abbrev N_l_integer : List Str := ["draws", "number"]
theorem sc_l_integer : FnScope N_l_integer ["draws"] (defScope s_l_integer) := ⟨rfl, rfl, rfl, by decide +kernel, rfl, by decide +kernel, by decide +kernel⟩
abbrev s_l_part : Stmt := topS 17
abbrev N_l_part : List Str := ["draws", "product"]
theorem sc_l_part : FnScope N_l_part ["draws"] (defScope s_l_part) := ⟨rfl, rfl, rfl, by decide +kernel, rfl, by decide +kernel, by decide +kernel⟩
abbrev s_l_neighbours : Stmt := topS 18
abbrev N_l_neighbours : List Str := ["draws", "low", "high", "k"]
theorem sc_l_neighbours : FnScope N_l_neighbours ["draws"] (defScope s_l_neighbours) := ⟨rfl, rfl, rfl, by decide +kernel, rfl, by decide +kernel, by decide +kernel⟩
abbrev s_l_two_are_right : Stmt := topS 19
abbrev N_l_two_are_right : List Str := ["f", "g", "left", "right"]
theorem sc_l_two_are_right : FnScope N_l_two_are_right ["f", "g"] (defScope s_l_two_are_right) := ⟨rfl, rfl, rfl, by decide +kernel, rfl, by decide +kernel, by decide +kernel⟩
abbrev s_law : Stmt := topS 20
abbrev N_law : List Str := ["script", "draws", "fractions", "k", "n", "d", "factor", "due", "pair", "f", "g"]
theorem sc_law : FnScope N_law ["script"] (defScope s_law) := ⟨rfl, rfl, rfl, by decide +kernel, rfl, by decide +kernel, by decide +kernel⟩

structure Bi (mg : Str → Option Value) : Prop where
  b_abs : mg "abs" = none
  b_bool : mg "bool" = none
  b_int : mg "int" = none
  b_isinstance : mg "isinstance" = none
  b_len : mg "len" = none
  b_list : mg "list" = none
  b_range : mg "range" = none
  b_str : mg "str" = none
  b_tuple : mg "tuple" = none
structure Im (mg : Str → Option Value) : Prop where
  i_gcd : mg "gcd" = some (.builtin "math.gcd")
  i_ok : True
abbrev sp_compare_keys : DSp := ar2 fun a b M Q => ∃ i j : Int, a = .int i ∧ b = .int j ∧ Q (.int (if i = j then 0 else if i < j then -1 else 1)) M
theorem ok_compare_keys (F : Def K mg "compare_keys" s_compare_keys ["one", "other"]) (B : Bi mg) (I : Im mg)  : Cal P w K mg base 1 "compare_keys" ["one", "other"] sp_compare_keys := by
  have sc := sc_compare_keys
  refine F.cal sc (fun ds M Q h => len2 h) (fun f cdv A outer s H E hr => (ds_cons (ds_if (dt_cmp (o_eq (hu_eq hr)) (d_v 0) (d_v 1) (nomark _))
    (ds_one (ds_ret d_int))
    ds_nil)
    (ds_one (ds_ret (d_ifE (dt_cmp o_lt (d_v 0) (d_v 1) (nomark _)) (d_neg d_int) d_int))))) (fun ds M Q h => ?_)
  obtain ⟨a, b, rfl, i, j, rfl, rfl, h⟩ := h
  walk_at "rd"
  split
  · next e =>
    rw [if_pos e] at h
    exact ret_of h
  · next e =>
    rw [if_neg e] at h
    split
    · next e2 =>
      rw [if_pos e2] at h
      exact ret_of h
    · next e2 =>
      rw [if_neg e2] at h
      exact ret_of h
/-- n / d in lowest terms -/
def fr (n d : Int) : D := .tup [.int (n / (Nat.gcd n.natAbs d.natAbs : Nat)), .int (d / (Nat.gcd n.natAbs d.natAbs : Nat))]
theorem gcd_pos {n d : Int} (h : 0 < d) : (0 : Int) < (Nat.gcd n.natAbs d.natAbs : Nat) := by
  have : 0 < Nat.gcd n.natAbs d.natAbs := Nat.gcd_pos_of_pos_right _ (by omega)
  omega
theorem gcd_ab {n d : Int} {B : Nat} (h : 0 < d) (k : Ab B d) : Ab B (Nat.gcd n.natAbs d.natAbs : Nat) := by
  refine k.le (by omega) ?_
  have : Nat.gcd n.natAbs d.natAbs ≤ d.natAbs := Nat.gcd_le_right _ (by omega)
  omega
abbrev sp_fraction : DSp := ar2 fun a b M Q => ∃ n d : Int, a = .int n ∧ b = .int d ∧ 0 < d ∧ Ab 8000 d ∧ Q (fr n d) M
theorem ok_fraction (F : Def K mg "fraction" s_fraction ["n", "d"]) (B : Bi mg) (I : Im mg)  : Cal P w K mg base 1 "fraction" ["n", "d"] sp_fraction := by
  have sc := sc_fraction
  refine F.cal sc (fun ds M Q h => len2 h) (fun f cdv A outer s H E hr => (ds_cons (ds_set (i := 2) sc.nd rfl (Or.inl rfl) (d_cm c_gcd rfl I.i_gcd (da_cons (d_v 0) (da_cons (d_v 1) da_nil))))
    (ds_one (ds_ret (d_tup (da_cons (d_op o_div (d_v 0) (d_v 2)) (da_cons (d_op o_div (d_v 1) (d_v 2)) da_nil))))))) (fun ds M Q h => ?_)
  obtain ⟨a, b, rfl, n, d, rfl, rfl, h1, h2, h⟩ := h
  walk_at "rd"
  have g := gcd_ab (n := n) h1 h2
  exact ⟨g.cdiv (gcd_pos h1) (by decide), g.cdiv (gcd_pos h1) (by decide), ret_of h⟩

/-! ### sums, products -/
def fsz (f : Int × Int) : Prop := 0 ≤ f.1 ∧ 0 < f.2 ∧ Ab 1000 f.1 ∧ Ab 1000 f.2
def en (f : Int × Int) : D := .tup [.int f.1, .int f.2]
theorem en_inj {f g : Int × Int} : en f = en g ↔ f = g := by
  obtain ⟨a, b⟩ := f
  obtain ⟨c, d⟩ := g
  simp [en]
theorem items_en {f : Int × Int} {M : DM} : dItems (en f) M = some [.int f.1, .int f.2] := rfl
local macro_rules | `(tactic| walk_at "rd") => `(tactic| simp only [dSeq, dSet, dIf, dTst, dOp, dVar, dC, dRet, dRetN, dNext, dDrop, dBreak, dCont, dAnd, dOr, dNot, dAndV, dOrV, dNotV, dIfE, dTup, dLstF, dLst, dCons, dNil, dCB, dCall, dUn, dNegI,
  dI, dI0, dEq, dNe, dIs, dIsNot, dIn, dNotIn, dIx, isN_non, isN_bl, isN_int, isN_str, isN_tup, isN_lst, isN_rf, rLen, rInt, rAbs, rMax2, rMin2, DL.rGcd, rTuple, rList, rIs, rIsT, ar0, ar1, ar2, ar3, ar4, ar5, ar6, dEnds, dMt, dMt0, mAppend, mPop, mReverse, dSetL, dPut, dAsg, dgName, dgTup, dgCons, dgNil,
  dFor, diSeq, diRng1, diRng2, dLcF, dLc, dwipe, dFz,
  dstart, List.map_cons, List.map_nil, List.length_cons, List.length_nil, List.cons_append, List.nil_append, List.append_nil, List.replicate, Nat.reduceAdd, Nat.reduceSub, Nat.reduceLeDiff, Int.reduceNeg, List.set_cons_zero, List.set_cons_succ,
  List.getElem?_cons_zero, List.getElem?_cons_succ, Option.some.injEq, exists_eq_left', exists_eq_left, exists_eq_right, exists_eq, exists_and_left, exists_and_right, D.int.injEq, D.bl.injEq, D.str.injEq, D.tup.injEq, D.lst.injEq, D.ref.injEq, D.ty.injEq,
  List.cons.injEq, and_assoc, and_true, true_and, and_self, reduceCtorEq, false_and, and_false, if_true, if_false, if_pos, ite_true, ite_false, Bool.false_eq_true, decide_eq_true_eq, Bool.not_eq_true', decide_eq_false_iff_not, Bool.not_true, Bool.not_false, decide_true, decide_false,
  eqv_int, eqv_str, eqv_bl, dOk_int, dOk_bl, dOk_non, dOk_tup, dOk_lst, dOk_str, List.all_cons, List.all_nil, Bool.and_true, Bool.true_and, Bool.and_self, dItems_tup, dItems_lst, dItems_rf, CMulA, CDivA, CPowA, Int.reduceLT, Int.reduceLE, Int.reducePow, Int.reduceToNat, Int.reduceMul, Int.reduceAdd, Int.reduceSub, Nat.reducePow, true_or, or_true, ne_eq, not_false_eq_true, not_true_eq_false, dAt_tup, dAt_lst, dAt_rf, dLenOf_tup, dLenOf_lst, dLenOf_rf, dLenOf_str, dTyN_non, dTyN_bl, dTyN_int, dTyN_str, dTyN_tup, dTyN_lst, dTyN_rf, dIntOf_int, dIntOf_bl, knownT, subT, atI_0, atI_1, atI_2, atI_3, atI_4, atI_5, atI_neg1, mput_same, mput_mput, eqv_non, tyNames, Option.map_some, String.reduceBEq, Bool.or_true, Bool.true_or, Bool.or_false, Bool.false_or, Bool.false_and, Bool.and_false, beq_self_eq_true, BEq.rfl, List.any_cons, List.any_nil, sizeLine_eq, rLenB, Bool.true_eq_false, implies_true, Nat.zero_le, Bool.or_self, String.reduceEq, en_inj, items_en])
local macro_rules | `(tactic| walk_at "st") => `(tactic| (refine seq_i ?_; simp only [dSet, dIf, dTst, dOp, dVar, dC, dRet, dRetN, dNext, dDrop, dBreak, dCont, dAnd, dOr, dNot, dAndV, dOrV, dNotV, dIfE, dTup, dLstF, dLst, dCons, dNil, dCB, dCall, dUn, dNegI,
  dI, dI0, dEq, dNe, dIs, dIsNot, dIn, dNotIn, dIx, isN_non, isN_bl, isN_int, isN_str, isN_tup, isN_lst, isN_rf, rLen, rInt, rAbs, rMax2, rMin2, DL.rGcd, rTuple, rList, rIs, rIsT, ar0, ar1, ar2, ar3, ar4, ar5, ar6, dEnds, dMt, dMt0, mAppend, mPop, mReverse, dSetL, dPut, dAsg, dgName, dgTup, dgCons, dgNil,
  dFor, diSeq, diRng1, diRng2, dLcF, dLc, dwipe, dFz,
  dstart, List.map_cons, List.map_nil, List.length_cons, List.length_nil, List.cons_append, List.nil_append, List.append_nil, List.replicate, Nat.reduceAdd, Nat.reduceSub, Nat.reduceLeDiff, Int.reduceNeg, List.set_cons_zero, List.set_cons_succ,
  List.getElem?_cons_zero, List.getElem?_cons_succ, Option.some.injEq, exists_eq_left', exists_eq_left, exists_eq_right, exists_eq, exists_and_left, exists_and_right, D.int.injEq, D.bl.injEq, D.str.injEq, D.tup.injEq, D.lst.injEq, D.ref.injEq, D.ty.injEq,
  List.cons.injEq, and_assoc, and_true, true_and, and_self, reduceCtorEq, false_and, and_false, if_true, if_false, if_pos, ite_true, ite_false, Bool.false_eq_true, decide_eq_true_eq, Bool.not_eq_true', decide_eq_false_iff_not, Bool.not_true, Bool.not_false, decide_true, decide_false,
  eqv_int, eqv_str, eqv_bl, dOk_int, dOk_bl, dOk_non, dOk_tup, dOk_lst, dOk_str, List.all_cons, List.all_nil, Bool.and_true, Bool.true_and, Bool.and_self, dItems_tup, dItems_lst, dItems_rf, CMulA, CDivA, CPowA, Int.reduceLT, Int.reduceLE, Int.reducePow, Int.reduceToNat, Int.reduceMul, Int.reduceAdd, Int.reduceSub, Nat.reducePow, true_or, or_true, ne_eq, not_false_eq_true, not_true_eq_false, dAt_tup, dAt_lst, dAt_rf, dLenOf_tup, dLenOf_lst, dLenOf_rf, dLenOf_str, dTyN_non, dTyN_bl, dTyN_int, dTyN_str, dTyN_tup, dTyN_lst, dTyN_rf, dIntOf_int, dIntOf_bl, knownT, subT, atI_0, atI_1, atI_2, atI_3, atI_4, atI_5, atI_neg1, mput_same, mput_mput, eqv_non, tyNames, Option.map_some, String.reduceBEq, Bool.or_true, Bool.true_or, Bool.or_false, Bool.false_or, Bool.false_and, Bool.and_false, beq_self_eq_true, BEq.rfl, List.any_cons, List.any_nil, sizeLine_eq, rLenB, Bool.true_eq_false, implies_true, Nat.zero_le, Bool.or_self, String.reduceEq, en_inj, items_en]))
local macro_rules | `(tactic| walk_at "p") => `(tactic| simp only [dRet, dOp, dVar, dCall, dCB, dCons, dNil, ar0, ar1, ar2, ar3, ar4, ar5, rLen, dIx, dEnds, dstart, List.map_cons, List.map_nil, List.length_cons, List.length_nil, List.cons_append, List.nil_append, List.replicate, Nat.reduceAdd, Nat.reduceSub, Nat.reduceLeDiff, List.getElem?_cons_zero, List.getElem?_cons_succ, Option.some.injEq, exists_eq_left', exists_eq_left, exists_and_left, exists_and_right, List.cons.injEq, and_assoc, and_true, true_and, D.ref.injEq, D.int.injEq])
local macro_rules | `(tactic| walk_at "s1") => `(tactic| simp only [dSet, dIf, dTst, dOp, dVar, dC, dRet, dRetN, dNext, dDrop, dBreak, dCont, dAnd, dOr, dNot, dAndV, dOrV, dNotV, dIfE, dTup, dLstF, dLst, dCons, dNil, dCB, dCall, dUn, dNegI,
  dI, dI0, dEq, dNe, dIs, dIsNot, dIn, dNotIn, dIx, isN_non, isN_bl, isN_int, isN_str, isN_tup, isN_lst, isN_rf, rLen, rInt, rAbs, rMax2, rMin2, DL.rGcd, rTuple, rList, rIs, rIsT, ar0, ar1, ar2, ar3, ar4, ar5, ar6, dEnds, dMt, dMt0, mAppend, mPop, mReverse, dSetL, dPut, dAsg, dgName, dgTup, dgCons, dgNil,
  dFor, diSeq, diRng1, diRng2, dLcF, dLc, dwipe, dFz,
  dstart, List.map_cons, List.map_nil, List.length_cons, List.length_nil, List.cons_append, List.nil_append, List.append_nil, List.replicate, Nat.reduceAdd, Nat.reduceSub, Nat.reduceLeDiff, Int.reduceNeg, List.set_cons_zero, List.set_cons_succ,
  List.getElem?_cons_zero, List.getElem?_cons_succ, Option.some.injEq, exists_eq_left', exists_eq_left, exists_eq_right, exists_eq, exists_and_left, exists_and_right, D.int.injEq, D.bl.injEq, D.str.injEq, D.tup.injEq, D.lst.injEq, D.ref.injEq, D.ty.injEq,
  List.cons.injEq, and_assoc, and_true, true_and, and_self, reduceCtorEq, false_and, and_false, if_true, if_false, if_pos, ite_true, ite_false, Bool.false_eq_true, decide_eq_true_eq, Bool.not_eq_true', decide_eq_false_iff_not, Bool.not_true, Bool.not_false, decide_true, decide_false,
  eqv_int, eqv_str, eqv_bl, dOk_int, dOk_bl, dOk_non, dOk_tup, dOk_lst, dOk_str, List.all_cons, List.all_nil, Bool.and_true, Bool.true_and, Bool.and_self, dItems_tup, dItems_lst, dItems_rf, CMulA, CDivA, CPowA, Int.reduceLT, Int.reduceLE, Int.reducePow, Int.reduceToNat, Int.reduceMul, Int.reduceAdd, Int.reduceSub, Nat.reducePow, true_or, or_true, ne_eq, not_false_eq_true, not_true_eq_false, dAt_tup, dAt_lst, dAt_rf, dLenOf_tup, dLenOf_lst, dLenOf_rf, dLenOf_str, dTyN_non, dTyN_bl, dTyN_int, dTyN_str, dTyN_tup, dTyN_lst, dTyN_rf, dIntOf_int, dIntOf_bl, knownT, subT, atI_0, atI_1, atI_2, atI_3, atI_4, atI_5, atI_neg1, mput_same, mput_mput, eqv_non, tyNames, Option.map_some, String.reduceBEq, Bool.or_true, Bool.true_or, Bool.or_false, Bool.false_or, Bool.false_and, Bool.and_false, beq_self_eq_true, BEq.rfl, List.any_cons, List.any_nil, sizeLine_eq, rLenB, Bool.true_eq_false, implies_true, Nat.zero_le, Bool.or_self, String.reduceEq, en_inj, items_en])
abbrev sp_add : DSp := ar2 fun a b M Q => ∃ f g : Int × Int, a = en f ∧ b = en g ∧ fsz f ∧ fsz g ∧ Q (fr (f.1 * g.2 + g.1 * f.2) (f.2 * g.2)) M
theorem ok_add (F : Def K mg "add" s_add ["f", "g"]) (B : Bi mg) (I : Im mg) (c_fraction : Cal P w K mg base 1 "fraction" ["n", "d"] sp_fraction) : Cal P w K mg base 2 "add" ["f", "g"] sp_add := by
  have sc := sc_add
  refine F.cal sc (fun ds M Q h => len2 h) (fun f cdv A outer s H E hr => (ds_one (ds_ret (d_call c_fraction (hr.mono (by first | decide | omega)) rfl (da_cons (d_op o_add (d_op o_mul (d_ix x_ix (d_v 0) d_int (fun _ _ => rfl)) (d_ix x_ix (d_v 1) d_int (fun _ _ => rfl))) (d_op o_mul (d_ix x_ix (d_v 1) d_int (fun _ _ => rfl)) (d_ix x_ix (d_v 0) d_int (fun _ _ => rfl)))) (da_cons (d_op o_mul (d_ix x_ix (d_v 0) d_int (fun _ _ => rfl)) (d_ix x_ix (d_v 1) d_int (fun _ _ => rfl))) da_nil)))))) (fun ds M Q h => ?_)
  obtain ⟨a, b, rfl, ⟨f1, f2⟩, ⟨g1, g2⟩, rfl, rfl, ⟨h1, h2, h3, h4⟩, ⟨h5, h6, h7, h8⟩, h⟩ := h
  walk_at "rd"
  exact ⟨h3.cmul h8 (by decide), h7.cmul h4 (by decide), h4.cmul h8 (by decide), Int.mul_pos h2 h6, (h4.mul h8).mono (by decide), ret_of h⟩
abbrev sp_subtract : DSp := ar2 fun a b M Q => ∃ f g : Int × Int, a = en f ∧ b = en g ∧ fsz f ∧ fsz g ∧ Q (fr (f.1 * g.2 - g.1 * f.2) (f.2 * g.2)) M
theorem ok_subtract (F : Def K mg "subtract" s_subtract ["f", "g"]) (B : Bi mg) (I : Im mg) (c_fraction : Cal P w K mg base 1 "fraction" ["n", "d"] sp_fraction) : Cal P w K mg base 2 "subtract" ["f", "g"] sp_subtract := by
  have sc := sc_subtract
  refine F.cal sc (fun ds M Q h => len2 h) (fun f cdv A outer s H E hr => (ds_one (ds_ret (d_call c_fraction (hr.mono (by first | decide | omega)) rfl (da_cons (d_op o_sub (d_op o_mul (d_ix x_ix (d_v 0) d_int (fun _ _ => rfl)) (d_ix x_ix (d_v 1) d_int (fun _ _ => rfl))) (d_op o_mul (d_ix x_ix (d_v 1) d_int (fun _ _ => rfl)) (d_ix x_ix (d_v 0) d_int (fun _ _ => rfl)))) (da_cons (d_op o_mul (d_ix x_ix (d_v 0) d_int (fun _ _ => rfl)) (d_ix x_ix (d_v 1) d_int (fun _ _ => rfl))) da_nil)))))) (fun ds M Q h => ?_)
  obtain ⟨a, b, rfl, ⟨f1, f2⟩, ⟨g1, g2⟩, rfl, rfl, ⟨h1, h2, h3, h4⟩, ⟨h5, h6, h7, h8⟩, h⟩ := h
  walk_at "rd"
  exact ⟨h3.cmul h8 (by decide), h7.cmul h4 (by decide), h4.cmul h8 (by decide), Int.mul_pos h2 h6, (h4.mul h8).mono (by decide), ret_of h⟩
abbrev sp_multiply : DSp := ar2 fun a b M Q => ∃ f g : Int × Int, a = en f ∧ b = en g ∧ fsz f ∧ fsz g ∧ Q (fr (f.1 * g.1) (f.2 * g.2)) M
theorem ok_multiply (F : Def K mg "multiply" s_multiply ["f", "g"]) (B : Bi mg) (I : Im mg) (c_fraction : Cal P w K mg base 1 "fraction" ["n", "d"] sp_fraction) : Cal P w K mg base 2 "multiply" ["f", "g"] sp_multiply := by
  have sc := sc_multiply
  refine F.cal sc (fun ds M Q h => len2 h) (fun f cdv A outer s H E hr => (ds_one (ds_ret (d_call c_fraction (hr.mono (by first | decide | omega)) rfl (da_cons (d_op o_mul (d_ix x_ix (d_v 0) d_int (fun _ _ => rfl)) (d_ix x_ix (d_v 1) d_int (fun _ _ => rfl))) (da_cons (d_op o_mul (d_ix x_ix (d_v 0) d_int (fun _ _ => rfl)) (d_ix x_ix (d_v 1) d_int (fun _ _ => rfl))) da_nil)))))) (fun ds M Q h => ?_)
  obtain ⟨a, b, rfl, ⟨f1, f2⟩, ⟨g1, g2⟩, rfl, rfl, ⟨h1, h2, h3, h4⟩, ⟨h5, h6, h7, h8⟩, h⟩ := h
  walk_at "rd"
  exact ⟨h3.cmul h7 (by decide), h4.cmul h8 (by decide), Int.mul_pos h2 h6, (h4.mul h8).mono (by decide), ret_of h⟩
abbrev sp_divide : DSp := ar2 fun a b M Q => ∃ f g : Int × Int, a = en f ∧ b = en g ∧ fsz f ∧ fsz g ∧ 0 < g.1 ∧ Q (fr (f.1 * g.2) (f.2 * g.1)) M
theorem ok_divide (F : Def K mg "divide" s_divide ["f", "g"]) (B : Bi mg) (I : Im mg) (c_fraction : Cal P w K mg base 1 "fraction" ["n", "d"] sp_fraction) : Cal P w K mg base 2 "divide" ["f", "g"] sp_divide := by
  have sc := sc_divide
  refine F.cal sc (fun ds M Q h => len2 h) (fun f cdv A outer s H E hr => (ds_one (ds_ret (d_call c_fraction (hr.mono (by first | decide | omega)) rfl (da_cons (d_op o_mul (d_ix x_ix (d_v 0) d_int (fun _ _ => rfl)) (d_ix x_ix (d_v 1) d_int (fun _ _ => rfl))) (da_cons (d_op o_mul (d_ix x_ix (d_v 0) d_int (fun _ _ => rfl)) (d_ix x_ix (d_v 1) d_int (fun _ _ => rfl))) da_nil)))))) (fun ds M Q h => ?_)
  obtain ⟨a, b, rfl, ⟨f1, f2⟩, ⟨g1, g2⟩, rfl, rfl, ⟨h1, h2, h3, h4⟩, ⟨h5, h6, h7, h8⟩, h9, h⟩ := h
  walk_at "rd"
  exact ⟨h3.cmul h8 (by decide), h4.cmul h7 (by decide), Int.mul_pos h2 h9, (h4.mul h7).mono (by decide), ret_of h⟩
def cmpI (i j : Int) : Int := if i = j then 0 else if i < j then -1 else 1
abbrev sp_compare_fractions : DSp := ar2 fun a b M Q => ∃ f g : Int × Int, a = en f ∧ b = en g ∧ fsz f ∧ fsz g ∧ Q (.int (cmpI (f.1 * g.2) (g.1 * f.2))) M
theorem ok_compare_fractions (F : Def K mg "compare_fractions" s_compare_fractions ["f", "g"]) (B : Bi mg) (I : Im mg) (c_compare_keys : Cal P w K mg base 1 "compare_keys" ["one", "other"] sp_compare_keys) : Cal P w K mg base 2 "compare_fractions" ["f", "g"] sp_compare_fractions := by
  have sc := sc_compare_fractions
  refine F.cal sc (fun ds M Q h => len2 h) (fun f cdv A outer s H E hr => (ds_one (ds_ret (d_call c_compare_keys (hr.mono (by first | decide | omega)) rfl (da_cons (d_op o_mul (d_ix x_ix (d_v 0) d_int (fun _ _ => rfl)) (d_ix x_ix (d_v 1) d_int (fun _ _ => rfl))) (da_cons (d_op o_mul (d_ix x_ix (d_v 1) d_int (fun _ _ => rfl)) (d_ix x_ix (d_v 0) d_int (fun _ _ => rfl))) da_nil)))))) (fun ds M Q h => ?_)
  obtain ⟨a, b, rfl, ⟨f1, f2⟩, ⟨g1, g2⟩, rfl, rfl, ⟨h1, h2, h3, h4⟩, ⟨h5, h6, h7, h8⟩, h⟩ := h
  walk_at "rd"
  exact ⟨h3.cmul h8 (by decide), h7.cmul h4 (by decide), ret_of h⟩
/-! ### draws -/
abbrev sp_l_draws : DSp := ar2 fun a b M Q => ∃ (ns : List Int) (n : Int), a = .lst (ns.map D.int) ∧ b = .int n ∧ 0 ≤ n ∧ n ≤ 1000 ∧ ∀ p o, M p = none → DrO o → Q (.ref p) (mput M p o)
theorem ok_l_draws (F : Def K mg "_law_draws" s_l_draws ["script", "many"]) (B : Bi mg) (I : Im mg)  : Cal P w K mg base 1 "_law_draws" ["script", "many"] sp_l_draws := by
  have sc := sc_l_draws
  refine F.cal sc (fun ds M Q h => len2 h) (fun f cdv A outer s H E hr => (ds_cons (ds_setLc (i := 2) rfl sc.nd rfl rfl (sw_true rfl rfl rfl (by decide +kernel)) (own := [("cell", 8)]) (di_seq (d_v 0)) (blkOk_by (N := N_l_draws) (sc := defScope s_l_draws) (by decide +kernel)) (by decide) (fun _ _ _ _ _ => (dg_name (i := 8) sc.nd rfl (Or.inl rfl))) (fun _ _ _ _ _ => dts_nil) (fun _ _ _ _ _ => (d_ct c_int rfl B.b_int boot_int (da_cons (d_v 8) da_nil))))
    (ds_cons (ds_if (dt_cmp (o_eq (hu_eq hr)) (d_cb c_len rfl B.b_len boot_len (da_cons (d_v 2) da_nil)) d_int (nomark _))
    (ds_one (ds_expr (d_mt PySem.F.slot_list_append PySem.F.type_list_append m_append (d_v 2) (da_cons d_int da_nil))))
    ds_nil)
    (ds_cons (ds_set (i := 3) sc.nd rfl (Or.inl rfl) (d_ct c_list rfl B.b_list boot_list (da_cons (d_v 2) da_nil)))
    (ds_cons (ds_set (i := 4) sc.nd rfl (Or.inl rfl) (d_lst da_nil))
    (ds_cons (ds_for PassesOwn.never rfl (di_range1 rfl B.b_range (da_cons (d_v 1) da_nil)) (dg_name (i := 5) sc.nd rfl (Or.inl rfl))
    (ds_cons (ds_set (i := 6) sc.nd rfl (Or.inl rfl) (d_op o_mod (d_v 5) (d_cb c_len rfl B.b_len boot_len (da_cons (d_v 2) da_nil))))
    (ds_one (ds_if (dt_cmp o_ge (d_ix x_ix (d_v 2) (d_v 6) (fun _ _ => rfl)) (d_op o_pow d_int d_int) (nomark _))
    (ds_cons (ds_expr (d_mt PySem.F.slot_list_append PySem.F.type_list_append m_append (d_v 4) (da_cons (d_op o_mod (d_ct c_int rfl B.b_int boot_int (da_cons (d_ix x_ix (d_v 3) (d_v 6) (fun _ _ => rfl)) da_nil)) d_int) da_nil)))
    (ds_one (ds_put (d_op o_div (d_ix x_ix (d_v 3) (d_v 6) (fun _ _ => rfl)) d_int) (d_v 3) (d_v 6) s_lst)))
    (ds_cons (ds_set (i := 7) sc.nd rfl (Or.inl rfl) (d_op o_mod (d_ct c_int rfl B.b_int boot_int (da_cons (d_op o_add (d_op o_add (d_op o_mul (d_ix x_ix (d_v 2) (d_v 6) (fun _ _ => rfl)) d_int) (d_op o_mul (d_v 5) d_int)) d_int) da_nil)) d_int))
    (ds_one (ds_expr (d_mt PySem.F.slot_list_append PySem.F.type_list_append m_append (d_v 4) (da_cons (d_op o_mod (d_ct c_int rfl B.b_int boot_int (da_cons (d_op o_add (d_op o_add (d_op o_mul (d_v 7) (d_v 7)) (d_op o_mul d_int (d_v 7))) (d_v 5)) da_nil)) d_int) da_nil)))))))))
    (ds_cons (ds_expr (d_mt0 PySem.F.slot_list_reverse PySem.F.type_list_reverse m_reverse (d_v 4)))
    (ds_one (ds_ret (d_v 4)))))))))) (fun ds M Q h => ?_)
  obtain ⟨a, b, rfl, ns, n, rfl, rfl, h0, h1, h⟩ := h
  walk_at "st"
  intro _
  refine lc_map ns D.int D.int rfl srcV_none (fun x hx M l C1 h1 => by walk_at "s1"; exact h1) fun c hc => ?_
  refine seq_cut (fun m1 M1 => ∃ cs : List Int, cs ≠ [] ∧ M1 c = some (.lst (cs.map D.int)) ∧ MLe M M1 ∧ m1 = [some (.lst (ns.map D.int)), some (.int n), some (.ref c), none, none, none, none, none, none]) (fun Cn hC => ?_) ?_
  · walk_at "s1"
    split
    · next e =>
      refine ⟨⟨_, rfl⟩, _, rfl, ?_⟩
      have e2 : ns = [] := by
        rw [List.length_map] at e
        exact List.eq_nil_of_length_eq_zero (by omega)
      subst e2
      exact ⟨by decide, hC _ _ ⟨[0], by simp, by rw [mput_same]; rfl, MLe.put (.refl M) hc, rfl⟩⟩
    · next e =>
      refine hC _ _ ⟨ns, fun z => e ?_, mput_same, MLe.put (.refl M) hc, rfl⟩
      rw [z]
      rfl
  rintro _ M1 ⟨cs, hcs, hM1, le1, rfl⟩
  walk_at "st"
  refine ⟨_, by rw [hM1], fun l hl => ?_⟩
  have hcl : c ≠ l := ne_of_fresh hM1 hl
  walk_at "st"
  intro d hd
  have hM2 : mput M1 l (.lst (cs.map D.int)) c = some (.lst (cs.map D.int)) := by rw [mput_ne hcl]; exact hM1
  have hcd : c ≠ d := ne_of_fresh hM2 hd
  have hld : l ≠ d := ne_of_fresh mput_same hd
  have hMl : M l = none := by
    cases q : M l with
    | none => rfl
    | some o => rw [le1 l o q] at hl; cases hl
  have hMd : M d = none := by
    cases q : M d with
    | none => rfl
    | some o => rw [mput_ne hld.symm, le1 d o q] at hd; cases hd
  walk_at "st"
  refine ⟨by omega, by omega, fun _ => ?_⟩
  have hpos : (0 : Int) < (cs.length : Int) := by
    cases cs with
    | nil => exact absurd rfl hcs
    | cons x r => rw [List.length_cons]; omega
  refine for_ind (fun items m1 M2 => ∃ (ls ks : List Int) (x5 x6 x7 x8 : Option D), m1 = [some (.lst (ns.map D.int)), some (.int n), some (.ref c), some (.ref l), some (.ref d), x5, x6, x7, x8] ∧
    M2 c = some (.lst (cs.map D.int)) ∧ M2 l = some (.lst (ls.map D.int)) ∧ ls.length = cs.length ∧ M2 d = some (.lst (ks.map D.int)) ∧ ks.length + items.length ≤ 1000 ∧ MLe M M2 ∧ ∀ z ∈ items, ∃ k : Int, z = .int k ∧ 0 ≤ k ∧ k < 1000) ?_ ?_ _ _ _ ?_
  · rintro m1 M2 ⟨ls, ks, x5, x6, x7, x8, rfl, e1, e2, e3, e4, e5, e6, _⟩
    refine ⟨srcV_none, ?_⟩
    walk_at "rd"
    rw [e4]
    refine ⟨⟨_, rfl⟩, _, rfl, ?_⟩
    rw [← List.map_reverse]
    exact ret_le (MLe.with (MLe.put e6 hMd) mput_same) (h d _ hMd ⟨_, rfl⟩)
  · rintro z items m1 M2 Cn hC ⟨ls, ks, x5, x6, x7, x8, rfl, e1, e2, e3, e4, e5, e6, e7⟩
    refine ⟨srcV_none, ?_⟩
    obtain ⟨k, rfl, k0, k1⟩ := e7 z (by simp)
    rw [List.length_cons] at e5
    have hksz : ks.length < 16777216 := by omega
    have e7' : ∀ z ∈ items, ∃ k : Int, z = .int k ∧ 0 ≤ k ∧ k < 1000 := fun z hz => e7 z (by simp [hz])
    walk_at "st"
    rw [e1]
    refine ⟨_, rfl, by rw [List.length_map]; exact hpos, ?_⟩
    rw [List.length_map]
    have p0 : 0 ≤ k % (cs.length : Int) := Int.emod_nonneg _ (by omega)
    have p1 : k % (cs.length : Int) < cs.length := Int.emod_lt_of_pos _ hpos
    generalize k % (cs.length : Int) = pl at p0 p1
    obtain ⟨cv, _, hcv⟩ := atI_lt p0 p1
    obtain ⟨lv, _, hlv⟩ := atI_lt (xs := ls) p0 (by rw [e3]; exact p1)
    walk_at "s1"
    refine ⟨_, by rw [atI_map, hcv]; rfl, _, rfl, ?_⟩
    split
    · walk_at "st"
      rw [e2, e4]
      refine ⟨⟨_, rfl⟩, _, rfl, _, by rw [atI_map, hlv]; rfl, _, rfl, _, rfl, by rw [List.length_map]; exact hksz, ?_⟩
      have e2' : mput M2 d (.lst (ks.map D.int ++ [.int (lv % 1000)])) l = some (.lst (ls.map D.int)) := by rw [mput_ne hld]; exact e2
      rw [e2']
      refine ⟨_, rfl, _, by rw [atI_map, hlv]; rfl, _, rfl, _, rfl, _, ixN_lt p0 (by rw [List.length_map, e3]; exact p1), ?_⟩
      refine fg_of (hC _ _ ⟨ls.set pl.toNat (lv / 1000), ks ++ [lv % 1000], _, _, _, _, rfl, ?_, ?_, by rw [List.length_set]; exact e3, ?_, by rw [List.length_append, List.length_singleton]; omega, MLe.put (MLe.put e6 hMd) hMl, e7'⟩)
      · rw [mput_ne hcl, mput_ne hcd]
        exact e1
      · rw [mput_same, List.map_set]
      · rw [mput_ne hld.symm, mput_same, List.map_append]
        rfl
    · walk_at "st"
      rw [e1]
      refine ⟨_, rfl, _, by rw [atI_map, hcv]; rfl, _, rfl, ?_⟩
      have m0 : 0 ≤ (cv * 48271 + k * 69621 + 11) % 2147483647 := Int.emod_nonneg _ (by omega)
      have m1 : (cv * 48271 + k * 69621 + 11) % 2147483647 < 2147483647 := Int.emod_lt_of_pos _ (by omega)
      generalize (cv * 48271 + k * 69621 + 11) % 2147483647 = mx at m0 m1
      rw [e4]
      refine ⟨⟨_, rfl⟩, .inl ⟨by omega, by omega⟩, _, rfl, by rw [List.length_map]; exact hksz, ?_⟩
      refine fg_of (hC _ _ ⟨ls, ks ++ [(mx * mx + 3 * mx + k) % 1000003], _, _, _, _, rfl, ?_, ?_, e3, ?_, by rw [List.length_append, List.length_singleton]; omega, MLe.put e6 hMd, e7'⟩)
      · rw [mput_ne hcd]
        exact e1
      · rw [mput_ne hld]
        exact e2
      · rw [mput_same, List.map_append]
        rfl
  · refine ⟨cs, [], _, _, _, _, rfl, ?_, ?_, rfl, mput_same, ?_, MLe.put (MLe.put le1 hMl) hMd, fun z hz => ?_⟩
    · rw [mput_ne hcd]
      exact hM2
    · rw [mput_ne hld]
      exact mput_same
    · simp [rangeD]
      omega
    · simp only [rangeD, List.mem_map, List.mem_range] at hz
      obtain ⟨i, hi, rfl⟩ := hz
      exact ⟨_, rfl, by omega, by omega⟩
/-- the next draw -/
abbrev sp_l_take : DSp := ar2 fun a b M Q => ∃ (p : Addr) (n : Int), a = .ref p ∧ b = .int n ∧ Dr M p ∧ 0 < n ∧ ∀ (o : DO) (r : Int), DrO o → 0 ≤ r → r < n → Q (.int r) (mput M p o)
theorem ok_l_take (F : Def K mg "_law_take" s_l_take ["draws", "many"]) (B : Bi mg) (I : Im mg)  : Cal P w K mg base 1 "_law_take" ["draws", "many"] sp_l_take := by
  have sc := sc_l_take
  refine F.cal sc (fun ds M Q h => len2 h) (fun f cdv A outer s H E hr => (ds_cons (ds_if (dt_cmp (o_eq (hu_eq hr)) (d_cb c_len rfl B.b_len boot_len (da_cons (d_v 0) da_nil)) d_int (nomark _))
    (ds_one (ds_ret d_int))
    ds_nil)
    (ds_one (ds_ret (d_op o_mod (d_ct c_int rfl B.b_int boot_int (da_cons (d_mt0 PySem.F.slot_list_pop PySem.F.type_list_pop m_pop (d_v 0)) da_nil)) (d_v 1)))))) (fun ds M Q h => ?_)
  obtain ⟨a, b, rfl, p, n, rfl, rfl, ⟨_, e, ks, rfl⟩, hn, h⟩ := h
  walk_at "rd"
  rw [e]
  refine ⟨_, rfl, ?_⟩
  split
  · have z := h _ 0 ⟨ks, rfl⟩ (by omega) hn
    rw [mput_self e] at z
    exact ret_of z
  · next ne =>
    cases q : ks.getLast? with
    | none =>
      rw [List.getLast?_eq_none_iff] at q
      subst q
      exact absurd rfl ne
    | some k =>
      refine ⟨⟨_, rfl⟩, _, rfl, _, by rw [List.getLast?_map, q]; rfl, _, rfl, hn, ?_⟩
      rw [← List.map_dropLast]
      exact ret_of (h _ _ ⟨_, rfl⟩ (Int.emod_nonneg _ (by omega)) (Int.emod_lt_of_pos _ hn))
/-- one of a row -/
abbrev sp_l_pick : DSp := ar2 fun a b M Q => ∃ (p : Addr) (row : List D), a = .ref p ∧ dItems b M = some row ∧ b ≠ .ref p ∧ Dr M p ∧ row ≠ [] ∧
  ∀ (o : DO) (x : D), DrO o → x ∈ row → Q x (mput M p o)
theorem ok_l_pick (F : Def K mg "_law_pick" s_l_pick ["draws", "row"]) (B : Bi mg) (I : Im mg) (c_l_take : Cal P w K mg base 1 "_law_take" ["draws", "many"] sp_l_take) : Cal P w K mg base 2 "_law_pick" ["draws", "row"] sp_l_pick := by
  have sc := sc_l_pick
  refine F.cal sc (fun ds M Q h => len2 h) (fun f cdv A outer s H E hr => (ds_one (ds_ret (d_ix x_ix (d_v 1) (d_call c_l_take (hr.mono (by first | decide | omega)) rfl (da_cons (d_v 0) (da_cons (d_cb c_len rfl B.b_len boot_len (da_cons (d_v 1) da_nil)) da_nil))) (fun _ _ => rfl))))) (fun ds M Q h => ?_)
  obtain ⟨a, b, rfl, p, row, rfl, hb, hne, e, hr, h⟩ := h
  walk_at "p"
  have hl := len_items hb
  have hpos : (0 : Int) < (row.length : Int) := by
    cases row with
    | nil => exact absurd rfl hr
    | cons x r => rw [List.length_cons]; omega
  refine ⟨_, hl, e, hpos, fun o r ho r0 r1 => ?_⟩
  obtain ⟨x, hx, hat⟩ := atI_lt r0 r1
  exact ⟨row, by rw [items_put hne]; exact hb, x, hat, ret_of (h o x ho hx)⟩

/-- equal values of the same kinds -/
def spS (n : Nat) : DSp := ar2 fun a b M Q => a = b ∧ dOk n b = true ∧ Q (.bl true) M
def spS' : Nat → DSp
  | 0 => fun _ _ _ => False
  | n + 1 => spS n
abbrev sp_l_same : DSp := ar2 fun a b M Q => a = b ∧ dOk 12 b = true ∧ Q (.bl true) M
theorem l_same_list {n : Nat} {b : D} {xs : List D} (hb : ∀ M, dItems b M = some xs) (hd : dOk (n + 1) b = true) (hx : xs.all (dOk n) = true) {j : Nat} {M : DM} {C1 : D → DM → Prop} (hj : j < xs.length) (q : C1 (.bl true) M) (m : DSt) (h0 : m[0]? = some (some b)) (h1 : m[1]? = some (some b)) (h2 : m[2]? = some (some (.int j))) :
    dCall (spS n) (dCons (dOp dIx (dVar 0) (dVar 2)) (dCons (dOp dIx (dVar 1) (dVar 2)) dNil)) m M C1 := by
  have ho : dOk n xs[j] = true := List.all_eq_true.mp hx _ (List.getElem_mem hj)
  have hi : atI xs (j : Int) = some xs[j] := by rw [atI_n, List.getElem?_eq_getElem hj]
  refine ⟨b, h0, .int j, h2, xs, j, xs[j], hb M, rfl, hi, b, h1, .int j, h2, xs, j, xs[j], hb M, rfl, hi, xs[j], xs[j], rfl, rfl, ho, q⟩
theorem ok_l_same_step (F : Def K mg "_law_same" s_l_same ["actual", "due"]) (B : Bi mg) (I : Im mg) (n : Nat) (c_l_same : Cal P w K mg base n "_law_same" ["actual", "due"] (spS' n)) : Cal P w K mg base (n + 1) "_law_same" ["actual", "due"] (spS n) := by
  have sc := sc_l_same
  refine F.cal sc (fun ds M Q h => len2 h) (fun f cdv A outer s H E hr => (ds_cons (ds_if (dt_val (d_cb c_isT rfl B.b_isinstance boot_isinstance (da_cons (d_v 1) (da_cons (d_tup (da_cons (d_ty rfl B.b_tuple boot_tuple) (da_cons (d_ty rfl B.b_list boot_list) da_nil))) da_nil))))
    (ds_cons (ds_if (dt_w (dw_or (dt_cmp (o_ne (hu_eq hr)) (d_cb c_is rfl B.b_isinstance boot_isinstance (da_cons (d_v 0) (da_cons (d_ty rfl B.b_tuple boot_tuple) da_nil))) (d_cb c_is rfl B.b_isinstance boot_isinstance (da_cons (d_v 1) (da_cons (d_ty rfl B.b_tuple boot_tuple) da_nil))) (nomark _)) (dw_or1 (dt_cmp (o_ne (hu_eq hr)) (d_cb c_is rfl B.b_isinstance boot_isinstance (da_cons (d_v 0) (da_cons (d_ty rfl B.b_list boot_list) da_nil))) (d_cb c_is rfl B.b_isinstance boot_isinstance (da_cons (d_v 1) (da_cons (d_ty rfl B.b_list boot_list) da_nil))) (nomark _)))))
    (ds_one (ds_ret d_bl))
    ds_nil)
    (ds_cons (ds_if (dt_cmp (o_ne (hu_eq hr)) (d_cb c_len rfl B.b_len boot_len (da_cons (d_v 0) da_nil)) (d_cb c_len rfl B.b_len boot_len (da_cons (d_v 1) da_nil)) (nomark _))
    (ds_one (ds_ret d_bl))
    ds_nil)
    (ds_one (ds_ret (d_cmp (o_notin (hu_in hr)) d_bl (d_lcF rfl sc.nd (own := [("k", 2)]) (di_range1 rfl B.b_range (da_cons (d_cb c_lenB rfl B.b_len boot_len (da_cons (d_v 1) da_nil)) da_nil)) (blkOk_by (N := N_l_same) (sc := defScope s_l_same) (by decide +kernel)) (by decide) (fun _ _ _ _ _ => (dg_name (i := 2) sc.nd rfl (Or.inl rfl))) (fun _ _ _ _ _ => dts_nil) (fun _ _ _ _ _ => (d_call c_l_same (hr.mono (by first | decide | omega)) rfl (da_cons (d_ix x_ix (d_v 0) (d_v 2) (fun _ _ => rfl)) (da_cons (d_ix x_ix (d_v 1) (d_v 2) (fun _ _ => rfl)) da_nil))))) rfl)))))
    ds_nil)
    (ds_cons (ds_if (dt_w (dw_or (dt_cmp (o_ne (hu_eq hr)) (d_cb c_is rfl B.b_isinstance boot_isinstance (da_cons (d_v 0) (da_cons (d_ty rfl B.b_bool boot_bool) da_nil))) (d_cb c_is rfl B.b_isinstance boot_isinstance (da_cons (d_v 1) (da_cons (d_ty rfl B.b_bool boot_bool) da_nil))) (nomark _)) (dw_or1 (dt_cmp (o_ne (hu_eq hr)) (d_cb c_is rfl B.b_isinstance boot_isinstance (da_cons (d_v 0) (da_cons (d_ty rfl B.b_int boot_int) da_nil))) (d_cb c_is rfl B.b_isinstance boot_isinstance (da_cons (d_v 1) (da_cons (d_ty rfl B.b_int boot_int) da_nil))) (nomark _)))))
    (ds_one (ds_ret d_bl))
    ds_nil)
    (ds_cons (ds_if (dt_w (dw_or (dt_cmp (o_ne (hu_eq hr)) (d_cb c_is rfl B.b_isinstance boot_isinstance (da_cons (d_v 0) (da_cons (d_ty rfl B.b_str boot_str) da_nil))) (d_cb c_is rfl B.b_isinstance boot_isinstance (da_cons (d_v 1) (da_cons (d_ty rfl B.b_str boot_str) da_nil))) (nomark _)) (dw_or1 (dt_cmp (o_ne (hu_eq hr)) (d_cmp o_is (d_v 0) d_non (nomark _)) (d_cmp o_is (d_v 1) d_non (nomark _)) (nomark _)))))
    (ds_one (ds_ret d_bl))
    ds_nil)
    (ds_one (ds_ret (d_cmp (o_eq (hu_eq hr)) (d_v 0) (d_v 1) (nomark _)))))))) (fun ds M Q h => ?_)
  obtain ⟨b, _, rfl, rfl, hb, h⟩ := h
  cases b with
  | non =>
    walk_at "rd"
    exact ret_of h
  | bl i =>
    walk_at "rd"
    exact ret_of h
  | int i =>
    walk_at "rd"
    exact ret_of h
  | str x =>
    have hx : PyData.strOk x = true := by
      rw [dOk_str] at hb
      exact hb
    walk_at "rd"
    exact ⟨hx, hx, ret_of h⟩
  | tup xs =>
    cases n with
    | zero => cases hb
    | succ n =>
      have hx : xs.all (dOk n) = true := hb
      walk_at "rd"
      intro hz
      refine ⟨by omega, by omega, fun _ => ?_⟩
      refine lc_map (List.range xs.length) (fun i => D.int (0 + (i : Nat))) (fun _ => .bl true) (by simp [rangeD]) srcV_none (fun x hx' M l C1 h1 => ?_) fun p hp => ?_
      · exact l_same_list (fun _ => rfl) hb hx (List.mem_range.mp hx') h1 _ rfl rfl (by simp)
      · simp only [mdel_mput hp]
        refine ⟨by simp, ?_⟩
        have e : (List.map (fun _ : Nat => D.bl true) (List.range xs.length)).any (fun z => z.eqv (D.bl false)) = false := by
          rw [List.any_map]
          simp [eqv_bl]
        rw [e]
        exact ret_of h
  | lst xs =>
    cases n with
    | zero => cases hb
    | succ n =>
      have hx : xs.all (dOk n) = true := hb
      walk_at "rd"
      intro hz
      refine ⟨by omega, by omega, fun _ => ?_⟩
      refine lc_map (List.range xs.length) (fun i => D.int (0 + (i : Nat))) (fun _ => .bl true) (by simp [rangeD]) srcV_none (fun x hx' M l C1 h1 => ?_) fun p hp => ?_
      · exact l_same_list (fun _ => rfl) hb hx (List.mem_range.mp hx') h1 _ rfl rfl (by simp)
      · simp only [mdel_mput hp]
        refine ⟨by simp, ?_⟩
        have e : (List.map (fun _ : Nat => D.bl true) (List.range xs.length)).any (fun z => z.eqv (D.bl false)) = false := by
          rw [List.any_map]
          simp [eqv_bl]
        rw [e]
        exact ret_of h
  | dct _ => cases n <;> cases hb
  | ref _ => cases n <;> cases hb
  | ty _ => cases n <;> cases hb
theorem ok_l_same (F : Def K mg "_law_same" s_l_same ["actual", "due"]) (B : Bi mg) (I : Im mg) : Cal P w K mg base 13 "_law_same" ["actual", "due"] sp_l_same := by
  have z : ∀ n : Nat, Cal P w K mg base (n + 1) "_law_same" ["actual", "due"] (spS n) := by
    intro n
    induction n with
    | zero => exact ok_l_same_step F B I 0 F.nil
    | succ n ih => exact ok_l_same_step F B I (n + 1) ih
  exact z 12
/-! ### Euclid -/
/-- the row a, b, a % b .. comes to 0 within n turns -/
def eu : Nat → Nat → Nat → Prop
  | 0, _, b => b = 0
  | n + 1, a, b => b = 0 ∨ eu n b (a % b)
theorem eu_mono : ∀ {n m a b : Nat}, eu n a b → n ≤ m → eu m a b
  | 0, 0, _, _, h, _ => h
  | 0, _ + 1, _, _, h, _ => .inl h
  | n + 1, 0, _, _, _, l => by omega
  | n + 1, m + 1, _, _, h, l => h.imp id fun h => eu_mono h (by omega)
theorem half {b r : Nat} (h : r < b) (h0 : 0 < r) : 2 * (b % r) < b := by
  have h1 : b % r < r := Nat.mod_lt _ h0
  by_cases h2 : 2 * r ≤ b
  · omega
  · have e : b % r = b - r := by
      rw [Nat.mod_eq_sub_mod (by omega), Nat.mod_eq_of_lt (by omega)]
    omega
theorem eu_of : ∀ (m a b : Nat), b < 2 ^ m → eu (2 * m) a b
  | 0, a, b, h => by
    have : b = 0 := by simpa using h
    exact this
  | m + 1, a, b, h => by
    show eu (2 * m + 1 + 1) a b
    by_cases hb : b = 0
    · exact .inl hb
    · refine .inr ?_
      by_cases hr : a % b = 0
      · exact .inl hr
      · refine .inr ?_
        have h1 : a % b < b := Nat.mod_lt _ (by omega)
        have h2 := half h1 (by omega)
        rw [Nat.pow_succ] at h
        exact eu_of m (a % b) (b % (a % b)) (by omega)
abbrev sp_l_lowest : DSp := ar2 fun a b M Q => ∃ n d : Int, a = .int n ∧ b = .int d ∧ 0 ≤ n ∧ 0 < d ∧ Ab 8000 d ∧ Q (fr n d) M
theorem ok_l_lowest (F : Def K mg "_law_lowest" s_l_lowest ["n", "d"]) (B : Bi mg) (I : Im mg)  : Cal P w K mg base 1 "_law_lowest" ["n", "d"] sp_l_lowest := by
  have sc := sc_l_lowest
  refine F.cal sc (fun ds M Q h => len2 h) (fun f cdv A outer s H E hr => (ds_cons (ds_set (i := 2) sc.nd rfl (Or.inl rfl) (d_v 0))
    (ds_cons (ds_set (i := 3) sc.nd rfl (Or.inl rfl) (d_v 1))
    (ds_cons (ds_for PassesOwn.never rfl (di_range1 rfl B.b_range (da_cons d_int da_nil)) (dg_name (i := 4) sc.nd rfl (Or.inl rfl))
    (ds_cons (ds_if (dt_cmp (o_eq (hu_eq hr)) (d_v 3) d_int (nomark _))
    (ds_one ds_break)
    ds_nil)
    (ds_cons (ds_set (i := 5) sc.nd rfl (Or.inl rfl) (d_op o_mod (d_ct c_int rfl B.b_int boot_int (da_cons (d_v 2) da_nil)) (d_v 3)))
    (ds_cons (ds_set (i := 2) sc.nd rfl (Or.inl rfl) (d_v 3))
    (ds_one (ds_set (i := 3) sc.nd rfl (Or.inl rfl) (d_v 5)))))))
    (ds_cons (ds_if (dt_cmp o_lt (d_v 2) d_int (nomark _))
    (ds_one (ds_ret (d_tup (da_cons (d_v 0) (da_cons (d_v 1) da_nil)))))
    ds_nil)
    (ds_one (ds_ret (d_tup (da_cons (d_op o_div (d_v 0) (d_v 2)) (da_cons (d_op o_div (d_v 1) (d_v 2)) da_nil)))))))))) (fun ds M Q h => ?_)
  obtain ⟨a, b, rfl, n, d, rfl, rfl, h0, h1, h2, h⟩ := h
  obtain ⟨n, rfl⟩ : ∃ k : Nat, n = k := ⟨n.toNat, by omega⟩
  obtain ⟨d, rfl⟩ : ∃ k : Nat, d = k := ⟨d.toNat, by omega⟩
  walk_at "st"
  walk_at "st"
  refine seq_cut (fun m1 M1 => M1 = M ∧ ∃ x4 x5, m1 = [some (.int n), some (.int d), some (.int (Nat.gcd n d : Nat)), some (.int 0), x4, x5]) (fun Cn hC => ?_) ?_
  · walk_at "s1"
    intro _
    have hl : 100000 ≤ (rangeD 0 100000).length := by
      simp only [rangeD, List.length_map, List.length_range]
      omega
    generalize rangeD 0 100000 = items at hl
    refine for_ind (fun items m1 M1 => M1 = M ∧ ∃ (a b : Nat) (x4 x5 : Option D), m1 = [some (.int n), some (.int d), some (.int a), some (.int b), x4, x5] ∧ Nat.gcd a b = Nat.gcd n d ∧ ∃ k, eu k a b ∧ k ≤ items.length) ?_ ?_ _ _ _ ?_
    · rintro m1 M1 ⟨rfl, a, b, x4, x5, rfl, e1, k, e2, hk⟩
      refine ⟨srcV_none, hC _ _ ⟨rfl, x4, x5, ?_⟩⟩
      have e2' : b = 0 := by
        have : k = 0 := by simpa using hk
        subst this
        exact e2
      subst e2'
      rw [Nat.gcd_zero_right] at e1
      rw [e1]
      rfl
    · rintro z items m1 M1 Cn' hC' ⟨rfl, a, b, x4, x5, rfl, e1, k, e2, hk⟩
      refine ⟨srcV_none, ?_⟩
      walk_at "st"
      split
      · next hb =>
        have hb' : b = 0 := by omega
        subst hb'
        rw [Nat.gcd_zero_right] at e1
        refine hC _ _ ⟨rfl, _, _, by rw [e1]; rfl⟩
      · next hb =>
        have hb' : b ≠ 0 := by omega
        walk_at "rd"
        have hm : (a : Int) % (b : Int) = ((a % b : Nat) : Int) := (Int.natCast_emod a b).symm
        rw [hm]
        refine ⟨by omega, fg_of (hC' _ _ ⟨rfl, b, a % b, _, _, rfl, ?_, ?_⟩)⟩
        · rw [Nat.gcd_comm, ← Nat.gcd_rec, Nat.gcd_comm, e1]
        · rw [List.length_cons] at hk
          cases k with
          | zero => exact absurd e2 hb'
          | succ k => exact ⟨k, e2.resolve_left hb', by omega⟩
    · have hd : d < 2 ^ 8000 := h2
      refine ⟨rfl, n, d, none, none, rfl, rfl, ?_⟩
      exact ⟨2 * 8000, eu_of 8000 n d hd, by omega⟩
  · rintro m1 M1 ⟨rfl, x4, x5, rfl⟩
    have e : fr (n : Int) (d : Int) = .tup [.int (n / (Nat.gcd n d : Nat)), .int (d / (Nat.gcd n d : Nat))] := rfl
    have gp : 0 < Nat.gcd n d := Nat.gcd_pos_of_pos_right _ (by omega)
    rw [e] at h
    walk_at "rd"
    split
    · next l =>
      have g1 : Nat.gcd n d = 1 := by omega
      rw [g1] at h
      simp only [Int.natCast_one, Int.ediv_one] at h
      exact ret_of h
    · have gb : Ab 8000 (Nat.gcd n d : Nat) := gcd_ab (n := n) (d := d) h1 h2
      exact ⟨gb.cdiv (by omega) (by decide), gb.cdiv (by omega) (by decide), ret_of h⟩
/-! ### what is drawn -/
abbrev sp_l_integer : DSp := ar1 fun a M Q => ∃ p : Addr, a = .ref p ∧ Dr M p ∧ ∀ (o : DO) (x : Int), DrO o → Ab 200 x → Q (.int x) (mput M p o)
theorem ok_l_integer (F : Def K mg "_law_integer" s_l_integer ["draws"]) (B : Bi mg) (I : Im mg) (c_l_take : Cal P w K mg base 1 "_law_take" ["draws", "many"] sp_l_take) (c_l_pick : Cal P w K mg base 2 "_law_pick" ["draws", "row"] sp_l_pick) : Cal P w K mg base 3 "_law_integer" ["draws"] sp_l_integer := by
  have sc := sc_l_integer
  refine F.cal sc (fun ds M Q h => len1 h) (fun f cdv A outer s H E hr => (ds_cons (ds_set (i := 1) sc.nd rfl (Or.inl rfl) (d_op o_sub (d_call c_l_take (hr.mono (by first | decide | omega)) rfl (da_cons (d_v 0) (da_cons d_int da_nil))) d_int))
    (ds_cons (ds_if (dt_cmp (o_eq (hu_eq hr)) (d_call c_l_take (hr.mono (by first | decide | omega)) rfl (da_cons (d_v 0) (da_cons d_int da_nil))) d_int (nomark _))
    (ds_cons (ds_set (i := 1) sc.nd rfl (Or.inl rfl) (d_op o_mul (d_v 1) (d_call c_l_pick (hr.mono (by first | decide | omega)) rfl (da_cons (d_v 0) (da_cons (d_lstF (da_cons d_int (da_cons (d_op o_pow d_int d_int) (da_cons (d_op o_pow d_int d_int) (da_cons (d_op o_add (d_op o_pow d_int d_int) d_int) (da_cons (d_op o_add (d_op o_pow d_int d_int) d_int) da_nil)))))) da_nil)))))
    (ds_one (ds_set (i := 1) sc.nd rfl (Or.inl rfl) (d_op o_add (d_v 1) (d_call c_l_take (hr.mono (by first | decide | omega)) rfl (da_cons (d_v 0) (da_cons d_int da_nil)))))))
    ds_nil)
    (ds_one (ds_ret (d_v 1)))))) (fun ds M Q h => ?_)
  obtain ⟨a, rfl, p, rfl, e, h⟩ := h
  walk_at "st"
  refine ⟨e, fun o r ho r0 r1 => ?_⟩
  walk_at "st"
  refine ⟨dr_put ho, fun o2 r2 ho2 _ _ => ?_⟩
  split
  · walk_at "st"
    refine ⟨dr_put ho2, fun o3 x ho3 hx => ?_⟩
    simp only [List.mem_cons, List.not_mem_nil, or_false] at hx
    obtain ⟨i, rfl, hi⟩ : ∃ i : Int, x = .int i ∧ Ab 162 i := by
      rcases hx with rfl | rfl | rfl | rfl | rfl <;> exact ⟨_, rfl, by unfold Ab; decide⟩
    refine ⟨i, rfl, .inl ⟨by omega, by omega⟩, ?_⟩
    refine ⟨dr_put ho3, fun o4 r4 ho4 s0 s1 => ret_of (h _ _ ho4 ?_)⟩
    have h1 : Ab 10 (r - 9) := Ab.small (by omega) (by omega)
    have h2 : Ab 10 r4 := Ab.small (by omega) (by omega)
    exact ((h1.mul hi).add (h2.mono (by decide))).mono (by decide)
  · exact ret_of (h _ _ ho2 ((Ab.small (by omega) (by omega)).mono (by decide)))
abbrev sp_l_part : DSp := ar1 fun a M Q => ∃ p : Addr, a = .ref p ∧ Dr M p ∧ ∀ (o : DO) (x : Int), DrO o → 0 ≤ x → Ab 200 x → Q (.int x) (mput M p o)
theorem ok_l_part (F : Def K mg "_law_part" s_l_part ["draws"]) (B : Bi mg) (I : Im mg) (c_l_take : Cal P w K mg base 1 "_law_take" ["draws", "many"] sp_l_take) (c_l_pick : Cal P w K mg base 2 "_law_pick" ["draws", "row"] sp_l_pick) (c_l_integer : Cal P w K mg base 3 "_law_integer" ["draws"] sp_l_integer) : Cal P w K mg base 4 "_law_part" ["draws"] sp_l_part := by
  have sc := sc_l_part
  refine F.cal sc (fun ds M Q h => len1 h) (fun f cdv A outer s H E hr => (ds_cons (ds_set (i := 1) sc.nd rfl (Or.inl rfl) (d_op o_mul (d_call c_l_take (hr.mono (by first | decide | omega)) rfl (da_cons (d_v 0) (da_cons d_int da_nil))) (d_call c_l_take (hr.mono (by first | decide | omega)) rfl (da_cons (d_v 0) (da_cons d_int da_nil)))))
    (ds_one (ds_ret (d_cb c_abs rfl B.b_abs boot_abs (da_cons (d_call c_l_pick (hr.mono (by first | decide | omega)) rfl (da_cons (d_v 0) (da_cons (d_lstF (da_cons (d_call c_l_integer (hr.mono (by first | decide | omega)) rfl (da_cons (d_v 0) da_nil)) (da_cons (d_call c_l_take (hr.mono (by first | decide | omega)) rfl (da_cons (d_v 0) (da_cons d_int da_nil))) (da_cons (d_v 1) da_nil)))) da_nil))) da_nil)))))) (fun ds M Q h => ?_)
  obtain ⟨a, rfl, p, rfl, e, h⟩ := h
  walk_at "st"
  refine ⟨e, fun o r ho r0 r1 => ?_⟩
  refine ⟨dr_put ho, fun o2 r2 ho2 s0 s1 => ⟨.inl ⟨by omega, by omega⟩, ?_⟩⟩
  have hm : Ab 20 (r * r2) := (Ab.small (by omega) (by omega)).mul (Ab.small (by omega) (by omega))
  have hm0 : 0 ≤ r * r2 := Int.mul_nonneg r0 s0
  generalize r * r2 = pr at hm hm0
  refine ⟨dr_put ho2, fun o3 x ho3 hx => ⟨dr_put ho3, fun o4 r4 ho4 t0 t1 => ?_⟩⟩
  refine ⟨dr_put ho4, fun o5 y ho5 hy => ?_⟩
  simp only [List.mem_cons, List.not_mem_nil, or_false] at hy
  obtain ⟨i, rfl, hi⟩ : ∃ i : Int, y = .int i ∧ Ab 200 i := by
    rcases hy with rfl | rfl | rfl
    · exact ⟨_, rfl, hx⟩
    · exact ⟨_, rfl, (Ab.small (by omega) (by omega)).mono (by decide)⟩
    · exact ⟨_, rfl, hm.mono (by decide)⟩
  refine ⟨i, rfl, ret_of (h _ _ ho5 (by split <;> omega) ?_)⟩
  split
  · exact hi.neg
  · exact hi
/-- neighbours -/
abbrev sp_l_neighbours : DSp := ar1 fun a M Q => ∃ p : Addr, a = .ref p ∧ Dr M p ∧ ∀ (o : DO) (x y : Int), DrO o → 0 < x → 0 < y → Ab 600 x → Ab 600 y → Nat.gcd x.natAbs y.natAbs = 1 → Q (en (x, y)) (mput M p o)
theorem nb_gcd {a b : Nat} (h : Nat.gcd a b = 1) : Nat.gcd (a + b) (a + b + b) = 1 := by
  rw [Nat.gcd_self_add_right, Nat.gcd_comm, Nat.gcd_add_self_right, Nat.gcd_comm]
  exact h
theorem ok_l_neighbours (F : Def K mg "_law_neighbours" s_l_neighbours ["draws"]) (B : Bi mg) (I : Im mg) (c_l_take : Cal P w K mg base 1 "_law_take" ["draws", "many"] sp_l_take) : Cal P w K mg base 2 "_law_neighbours" ["draws"] sp_l_neighbours := by
  have sc := sc_l_neighbours
  refine F.cal sc (fun ds M Q h => len1 h) (fun f cdv A outer s H E hr => (ds_cons (ds_set (i := 1) sc.nd rfl (Or.inl rfl) d_int)
    (ds_cons (ds_set (i := 2) sc.nd rfl (Or.inl rfl) d_int)
    (ds_cons (ds_for PassesOwn.never rfl (di_range1 rfl B.b_range (da_cons (d_call c_l_take (hr.mono (by first | decide | omega)) rfl (da_cons (d_v 0) (da_cons d_int da_nil))) da_nil)) (dg_name (i := 3) sc.nd rfl (Or.inl rfl))
    (ds_cons (ds_set (i := 1) sc.nd rfl (Or.inl rfl) (d_op o_add (d_v 1) (d_v 2)))
    (ds_one (ds_set (i := 2) sc.nd rfl (Or.inl rfl) (d_op o_add (d_v 1) (d_v 2))))))
    (ds_one (ds_ret (d_tup (da_cons (d_v 1) (da_cons (d_v 2) da_nil))))))))) (fun ds M Q h => ?_)
  obtain ⟨a, rfl, p, rfl, e, h⟩ := h
  walk_at "st"
  walk_at "st"
  walk_at "st"
  refine ⟨e, fun o r ho r0 r1 => ⟨by omega, by omega, fun _ => ?_⟩⟩
  have hl : (rangeD 0 r.toNat).length ≤ 240 := by
    simp only [rangeD, List.length_map, List.length_range]
    omega
  generalize rangeD 0 r.toNat = items at hl
  refine for_ind (fun items m1 M1 => M1 = mput M p o ∧ ∃ (a b k : Nat) (x3 : Option D), m1 = [some (.ref p), some (.int a), some (.int b), x3] ∧ Nat.gcd a b = 1 ∧ 0 < a ∧ 0 < b ∧ a < 2 ^ k ∧ b < 2 ^ k ∧ k + 2 * items.length ≤ 600) ?_ ?_ _ _ _ ?_
  · rintro m1 M1 ⟨rfl, a, b, k, x3, rfl, e1, a0, b0, a1, b1, hk⟩
    refine ⟨srcV_none, ?_⟩
    walk_at "rd"
    have hk' : k ≤ 600 := by omega
    exact ret_of (h _ a b ho (by omega) (by omega) (Ab.mono (a := k) (x := (a : Int)) a1 hk') (Ab.mono (a := k) (x := (b : Int)) b1 hk') e1)
  · rintro z items m1 M1 Cn hC ⟨rfl, a, b, k, x3, rfl, e1, a0, b0, a1, b1, hk⟩
    refine ⟨srcV_none, ?_⟩
    walk_at "rd"
    rw [List.length_cons] at hk
    refine fg_of (hC _ _ ⟨rfl, a + b, a + b + b, k + 2, _, rfl, nb_gcd e1, by omega, by omega, ?_, ?_, by omega⟩)
    · rw [Nat.pow_succ, Nat.pow_succ]
      omega
    · rw [Nat.pow_succ, Nat.pow_succ]
      omega
  · exact ⟨rfl, 1, 2, 2, none, rfl, rfl, by decide, by decide, by decide, by decide, by omega⟩
abbrev sp_l_two_are_right : DSp := ar2 fun a b M Q => ∃ f g : Int × Int, a = en f ∧ b = en g ∧ fsz f ∧ fsz g ∧ Q (.bl true) M
theorem fr_ok (n d : Int) (k : Nat) : dOk (k + 2) (fr n d) = true := by simp [fr]
theorem cmp_int (l r : Int) : (if l = r then 0 else if l < r then -1 else 1 : Int) = (if r < l then 1 else 0) - if l < r then 1 else 0 := by
  split
  · next e =>
    subst e
    rw [if_neg (by omega)]
    rfl
  · split
    · rw [if_neg (by omega)]
      rfl
    · rw [if_pos (by omega)]
      rfl
theorem ok_l_two_are_right (F : Def K mg "_law_two_are_right" s_l_two_are_right ["f", "g"]) (B : Bi mg) (I : Im mg) (c_add : Cal P w K mg base 2 "add" ["f", "g"] sp_add) (c_subtract : Cal P w K mg base 2 "subtract" ["f", "g"] sp_subtract) (c_multiply : Cal P w K mg base 2 "multiply" ["f", "g"] sp_multiply) (c_divide : Cal P w K mg base 2 "divide" ["f", "g"] sp_divide) (c_compare_fractions : Cal P w K mg base 2 "compare_fractions" ["f", "g"] sp_compare_fractions) (c_l_same : Cal P w K mg base 13 "_law_same" ["actual", "due"] sp_l_same) (c_l_lowest : Cal P w K mg base 1 "_law_lowest" ["n", "d"] sp_l_lowest) : Cal P w K mg base 14 "_law_two_are_right" ["f", "g"] sp_l_two_are_right := by
  have sc := sc_l_two_are_right
  refine F.cal sc (fun ds M Q h => len2 h) (fun f cdv A outer s H E hr => (ds_cons (ds_if (dt_not (dt_val (d_call c_l_same (hr.mono (by first | decide | omega)) rfl (da_cons (d_call c_add (hr.mono (by first | decide | omega)) rfl (da_cons (d_v 0) (da_cons (d_v 1) da_nil))) (da_cons (d_call c_l_lowest (hr.mono (by first | decide | omega)) rfl (da_cons (d_op o_add (d_op o_mul (d_ix x_ix (d_v 0) d_int (fun _ _ => rfl)) (d_ix x_ix (d_v 1) d_int (fun _ _ => rfl))) (d_op o_mul (d_ix x_ix (d_v 1) d_int (fun _ _ => rfl)) (d_ix x_ix (d_v 0) d_int (fun _ _ => rfl)))) (da_cons (d_op o_mul (d_ix x_ix (d_v 0) d_int (fun _ _ => rfl)) (d_ix x_ix (d_v 1) d_int (fun _ _ => rfl))) da_nil))) da_nil)))))
    (ds_one (ds_ret d_bl))
    ds_nil)
    (ds_cons (ds_if (dt_not (dt_val (d_call c_l_same (hr.mono (by first | decide | omega)) rfl (da_cons (d_call c_multiply (hr.mono (by first | decide | omega)) rfl (da_cons (d_v 0) (da_cons (d_v 1) da_nil))) (da_cons (d_call c_l_lowest (hr.mono (by first | decide | omega)) rfl (da_cons (d_op o_mul (d_ix x_ix (d_v 0) d_int (fun _ _ => rfl)) (d_ix x_ix (d_v 1) d_int (fun _ _ => rfl))) (da_cons (d_op o_mul (d_ix x_ix (d_v 0) d_int (fun _ _ => rfl)) (d_ix x_ix (d_v 1) d_int (fun _ _ => rfl))) da_nil))) da_nil)))))
    (ds_one (ds_ret d_bl))
    ds_nil)
    (ds_cons (ds_set (i := 2) sc.nd rfl (Or.inl rfl) (d_op o_mul (d_ix x_ix (d_v 0) d_int (fun _ _ => rfl)) (d_ix x_ix (d_v 1) d_int (fun _ _ => rfl))))
    (ds_cons (ds_set (i := 3) sc.nd rfl (Or.inl rfl) (d_op o_mul (d_ix x_ix (d_v 1) d_int (fun _ _ => rfl)) (d_ix x_ix (d_v 0) d_int (fun _ _ => rfl))))
    (ds_cons (ds_if (dt_not (dt_val (d_call c_l_same (hr.mono (by first | decide | omega)) rfl (da_cons (d_call c_compare_fractions (hr.mono (by first | decide | omega)) rfl (da_cons (d_v 0) (da_cons (d_v 1) da_nil))) (da_cons (d_op o_sub (d_ct c_int rfl B.b_int boot_int (da_cons (d_cmp o_gt (d_v 2) (d_v 3) (nomark _)) da_nil)) (d_ct c_int rfl B.b_int boot_int (da_cons (d_cmp o_lt (d_v 2) (d_v 3) (nomark _)) da_nil))) da_nil)))))
    (ds_one (ds_ret d_bl))
    ds_nil)
    (ds_cons (ds_if (dt_w (dw_and (dt_cmp o_ge (d_v 2) (d_v 3) (nomark _)) (dw_and1 (dt_not (dt_val (d_call c_l_same (hr.mono (by first | decide | omega)) rfl (da_cons (d_call c_subtract (hr.mono (by first | decide | omega)) rfl (da_cons (d_v 0) (da_cons (d_v 1) da_nil))) (da_cons (d_call c_l_lowest (hr.mono (by first | decide | omega)) rfl (da_cons (d_op o_sub (d_v 2) (d_v 3)) (da_cons (d_op o_mul (d_ix x_ix (d_v 0) d_int (fun _ _ => rfl)) (d_ix x_ix (d_v 1) d_int (fun _ _ => rfl))) da_nil))) da_nil))))))))
    (ds_one (ds_ret d_bl))
    ds_nil)
    (ds_one (ds_ret (d_or (d_cmp (o_eq (hu_eq hr)) (d_ix x_ix (d_v 1) d_int (fun _ _ => rfl)) d_int (nomark _)) (d_one (d_call c_l_same (hr.mono (by first | decide | omega)) rfl (da_cons (d_call c_divide (hr.mono (by first | decide | omega)) rfl (da_cons (d_v 0) (da_cons (d_v 1) da_nil))) (da_cons (d_call c_l_lowest (hr.mono (by first | decide | omega)) rfl (da_cons (d_v 2) (da_cons (d_v 3) da_nil))) da_nil)))))))))))))) (fun ds M Q h => ?_)
  obtain ⟨a, b, rfl, ⟨f1, f2⟩, ⟨g1, g2⟩, rfl, rfl, hf, hg, h⟩ := h
  obtain ⟨h1, h2, h3, h4⟩ := id hf
  obtain ⟨h5, h6, h7, h8⟩ := id hg
  have c1 := h3.cmul h8 (by decide)
  have c2 := h7.cmul h4 (by decide)
  have c3 := h4.cmul h8 (by decide)
  have c4 := h3.cmul h7 (by decide)
  have p1 : 0 < f2 * g2 := Int.mul_pos h2 h6
  have p2 : 0 ≤ f1 * g2 := Int.mul_nonneg h1 (by omega)
  have p3 : 0 ≤ g1 * f2 := Int.mul_nonneg h5 (by omega)
  have p4 : 0 ≤ f1 * g1 := Int.mul_nonneg h1 h5
  have b1 : Ab 8000 (f2 * g2) := (h4.mul h8).mono (by decide)
  have p5 : 0 ≤ f1 * g2 + g1 * f2 := by omega
  walk_at "st"
  refine ⟨hf, hg, c1, c2, c3, p5, p1, b1, fr_ok _ _ 10, ?_⟩
  walk_at "st"
  refine ⟨hf, hg, c4, c3, p4, p1, b1, fr_ok _ _ 10, ?_⟩
  walk_at "st"
  refine ⟨c1, ?_⟩
  walk_at "st"
  refine ⟨c2, ?_⟩
  walk_at "st"
  refine ⟨hf, hg, ?_, ?_⟩
  · exact cmp_int _ _
  refine seq_cut (fun m1 M1 => M1 = M ∧ m1 = [some (en (f1, f2)), some (en (g1, g2)), some (.int (f1 * g2)), some (.int (g1 * f2))]) (fun Cn hC => ?_) ?_
  · walk_at "s1"
    split
    · refine ⟨hf, hg, c3, by omega, p1, b1, fr_ok _ _ 10, ?_⟩
      exact hC _ _ ⟨rfl, rfl⟩
    · exact hC _ _ ⟨rfl, rfl⟩
  · rintro m1 M1 ⟨rfl, rfl⟩
    walk_at "rd"
    split
    · exact ret_of h
    · next ne =>
      have g0 : 0 < g1 := by
        have : 0 ≤ g1 := h5
        omega
      refine ⟨hf, hg, g0, p2, ?_, ?_, congrArg (fr _) (Int.mul_comm _ _), fr_ok _ _ 10, ret_of h⟩
      · exact Int.mul_pos g0 h2
      · exact (h7.mul h4).mono (by decide)
theorem fr_low {n d : Int} {B : Nat} (h0 : 0 ≤ n) (h1 : 0 < d) (ha : Ab B n) (hb : Ab B d) : ∃ x y : Int, fr n d = en (x, y) ∧ 0 ≤ x ∧ 0 < y ∧ Ab B x ∧ Ab B y := by
  have gp := gcd_pos (n := n) h1
  have gd : ((Nat.gcd n.natAbs d.natAbs : Nat) : Int) ∣ d := by
    have e : d = ((d.natAbs : Nat) : Int) := by omega
    rw [e]
    exact Int.natCast_dvd_natCast.mpr (by simpa using Nat.gcd_dvd_right _ _)
  refine ⟨_, _, rfl, Int.ediv_nonneg h0 (by omega), ?_, ?_, ?_⟩
  · have : (Nat.gcd n.natAbs d.natAbs : Nat) ≤ d.natAbs := Nat.gcd_le_right _ (by omega)
    exact Int.ediv_pos_of_pos_of_dvd h1 (by omega) gd
  · exact ha.le (Int.ediv_nonneg h0 (by omega)) (Int.ediv_le_self _ h0)
  · exact hb.le (Int.ediv_nonneg (by omega) (by omega)) (Int.ediv_le_self _ (by omega))
/-- common factors go -/
theorem fr_mul {n d f : Int} (h0 : 0 ≤ n) (h1 : 0 ≤ d) (hf : 0 < f) : fr (n * f) (d * f) = fr n d := by
  have e : Nat.gcd (n * f).natAbs (d * f).natAbs = Nat.gcd n.natAbs d.natAbs * f.natAbs := by
    rw [Int.natAbs_mul, Int.natAbs_mul, Nat.gcd_mul_right]
  have ef : ((f.natAbs : Nat) : Int) = f := by omega
  unfold fr
  rw [e, Int.natCast_mul, ef, Int.mul_ediv_mul_of_pos_left _ _ hf, Int.mul_ediv_mul_of_pos_left _ _ hf]
theorem fr_one {n d : Int} (h : Nat.gcd n.natAbs d.natAbs = 1) : fr n d = en (n, d) := by
  unfold fr
  rw [h]
  simp [en]
theorem fr_same {n : Int} (h : 0 < n) : fr n n = en (1, 1) := by
  unfold fr
  rw [Nat.gcd_self]
  have e : ((n.natAbs : Nat) : Int) = n := by omega
  rw [e, Int.ediv_self (by omega)]
  rfl
theorem fr_zero {d : Int} (h : 0 < d) : fr 0 d = en (0, 1) := by
  unfold fr
  rw [show (0 : Int).natAbs = 0 from rfl, Nat.gcd_zero_left]
  have e : ((d.natAbs : Nat) : Int) = d := by omega
  rw [e, Int.ediv_self (by omega), Int.zero_ediv]
  rfl
/-- what a fraction of the row is -/
def isF (d : D) : Prop := ∃ x y : Int, d = en (x, y) ∧ 0 ≤ x ∧ 0 < y ∧ Ab 450 x ∧ Ab 450 y
theorem ok_law {f0 : Addr} {fd0 : FuncData} (F : Fun K "law" "law" s_law f0 fd0) (B : Bi mg) (I : Im mg) (c_fraction : Cal P w K mg base 1 "fraction" ["n", "d"] sp_fraction) (c_add : Cal P w K mg base 2 "add" ["f", "g"] sp_add) (c_multiply : Cal P w K mg base 2 "multiply" ["f", "g"] sp_multiply) (c_l_draws : Cal P w K mg base 1 "_law_draws" ["script", "many"] sp_l_draws) (c_l_pick : Cal P w K mg base 2 "_law_pick" ["draws", "row"] sp_l_pick) (c_l_same : Cal P w K mg base 13 "_law_same" ["actual", "due"] sp_l_same) (c_l_lowest : Cal P w K mg base 1 "_law_lowest" ["n", "d"] sp_l_lowest) (c_l_part : Cal P w K mg base 4 "_law_part" ["draws"] sp_l_part) (c_l_neighbours : Cal P w K mg base 2 "_law_neighbours" ["draws"] sp_l_neighbours) (c_l_two_are_right : Cal P w K mg base 14 "_law_two_are_right" ["f", "g"] sp_l_two_are_right) : FnOk P w K mg base CX0 15 f0 fd0 ["script"] (upSp K sp_law) := by
  have sc := sc_law
  refine fn_ok F sc (fun ds M Q h => len1 h) (fun f cdv A outer s H E hr => (ds_cons (ds_set (i := 1) sc.nd rfl (Or.inl rfl) (d_call c_l_draws (hr.mono (by first | decide | omega)) rfl (da_cons (d_v 0) (da_cons d_int da_nil))))
    (ds_cons (ds_set (i := 2) sc.nd rfl (Or.inl rfl) (d_lst (da_cons (d_tup (da_cons d_int (da_cons d_int da_nil))) (da_cons (d_tup (da_cons d_int (da_cons d_int da_nil))) da_nil))))
    (ds_cons (ds_for PassesOwn.never rfl (di_range1 rfl B.b_range (da_cons d_int da_nil)) (dg_name (i := 3) sc.nd rfl (Or.inl rfl))
    (ds_cons (ds_set (i := 4) sc.nd rfl (Or.inl rfl) (d_call c_l_part (hr.mono (by first | decide | omega)) rfl (da_cons (d_v 1) da_nil)))
    (ds_cons (ds_set (i := 5) sc.nd rfl (Or.inl rfl) (d_op o_add d_int (d_call c_l_part (hr.mono (by first | decide | omega)) rfl (da_cons (d_v 1) da_nil))))
    (ds_cons (ds_set (i := 6) sc.nd rfl (Or.inl rfl) (d_call c_l_pick (hr.mono (by first | decide | omega)) rfl (da_cons (d_v 1) (da_cons (d_lstF (da_cons d_int (da_cons d_int (da_cons d_int (da_cons (d_op o_add d_int (d_call c_l_part (hr.mono (by first | decide | omega)) rfl (da_cons (d_v 1) da_nil))) da_nil))))) da_nil))))
    (ds_cons (ds_set (i := 7) sc.nd rfl (Or.inl rfl) (d_call c_l_lowest (hr.mono (by first | decide | omega)) rfl (da_cons (d_op o_mul (d_v 4) (d_v 6)) (da_cons (d_op o_mul (d_v 5) (d_v 6)) da_nil))))
    (ds_cons (ds_if (dt_w (dw_or (dt_not (dt_val (d_call c_l_same (hr.mono (by first | decide | omega)) rfl (da_cons (d_call c_fraction (hr.mono (by first | decide | omega)) rfl (da_cons (d_op o_mul (d_v 4) (d_v 6)) (da_cons (d_op o_mul (d_v 5) (d_v 6)) da_nil))) (da_cons (d_v 7) da_nil))))) (dw_or1 (dt_not (dt_val (d_call c_l_same (hr.mono (by first | decide | omega)) rfl (da_cons (d_call c_fraction (hr.mono (by first | decide | omega)) rfl (da_cons (d_v 4) (da_cons (d_v 5) da_nil))) (da_cons (d_v 7) da_nil))))))))
    (ds_one (ds_ret d_bl))
    ds_nil)
    (ds_one (ds_expr (d_mt PySem.F.slot_list_append PySem.F.type_list_append m_append (d_v 2) (da_cons (d_v 7) da_nil))))))))))
    (ds_cons (ds_expr (d_mt PySem.F.slot_list_append PySem.F.type_list_append m_append (d_v 2) (da_cons (d_call c_l_lowest (hr.mono (by first | decide | omega)) rfl (da_cons (d_op o_add (d_ix x_ix (d_ix x_ix (d_v 2) d_int (fun _ _ => rfl)) d_int (fun _ _ => rfl)) d_int) (da_cons (d_ix x_ix (d_ix x_ix (d_v 2) d_int (fun _ _ => rfl)) d_int (fun _ _ => rfl)) da_nil))) da_nil)))
    (ds_cons (ds_set (i := 8) sc.nd rfl (Or.inl rfl) (d_call c_l_neighbours (hr.mono (by first | decide | omega)) rfl (da_cons (d_v 1) da_nil)))
    (ds_cons (ds_set (i := 6) sc.nd rfl (Or.inl rfl) (d_op o_add d_int (d_call c_l_part (hr.mono (by first | decide | omega)) rfl (da_cons (d_v 1) da_nil))))
    (ds_cons (ds_if (dt_not (dt_val (d_call c_l_same (hr.mono (by first | decide | omega)) rfl (da_cons (d_call c_fraction (hr.mono (by first | decide | omega)) rfl (da_cons (d_op o_mul (d_ix x_ix (d_v 8) d_int (fun _ _ => rfl)) (d_v 6)) (da_cons (d_op o_mul (d_ix x_ix (d_v 8) d_int (fun _ _ => rfl)) (d_v 6)) da_nil))) (da_cons (d_v 8) da_nil)))))
    (ds_one (ds_ret d_bl))
    ds_nil)
    (ds_cons (ds_if (dt_not (dt_val (d_call c_l_same (hr.mono (by first | decide | omega)) rfl (da_cons (d_call c_multiply (hr.mono (by first | decide | omega)) rfl (da_cons (d_v 8) (da_cons (d_tup (da_cons (d_ix x_ix (d_v 8) d_int (fun _ _ => rfl)) (da_cons (d_ix x_ix (d_v 8) d_int (fun _ _ => rfl)) da_nil))) da_nil))) (da_cons (d_tup (da_cons d_int (da_cons d_int da_nil))) da_nil)))))
    (ds_one (ds_ret d_bl))
    ds_nil)
    (ds_cons (ds_for PassesOwn.never rfl (di_seq (d_v 2)) (dg_name (i := 9) sc.nd rfl (Or.inl rfl))
    (ds_one (ds_for PassesOwn.never rfl (di_seq (d_v 2)) (dg_name (i := 10) sc.nd rfl (Or.inl rfl))
    (ds_one (ds_if (dt_not (dt_val (d_call c_l_two_are_right (hr.mono (by first | decide | omega)) rfl (da_cons (d_v 9) (da_cons (d_v 10) da_nil)))))
    (ds_one (ds_ret d_bl))
    ds_nil)))))
    (ds_one (ds_ret (d_and (d_call c_l_same (hr.mono (by first | decide | omega)) rfl (da_cons (d_call c_fraction (hr.mono (by first | decide | omega)) rfl (da_cons d_int (da_cons (d_op o_add d_int (d_call c_l_part (hr.mono (by first | decide | omega)) rfl (da_cons (d_v 1) da_nil))) da_nil))) (da_cons (d_tup (da_cons d_int (da_cons d_int da_nil))) da_nil))) (d_one (d_call c_l_same (hr.mono (by first | decide | omega)) rfl (da_cons (d_call c_add (hr.mono (by first | decide | omega)) rfl (da_cons (d_tup (da_cons d_int (da_cons d_int da_nil))) (da_cons (d_tup (da_cons d_int (da_cons d_int da_nil))) da_nil))) (da_cons (d_tup (da_cons d_int (da_cons d_int da_nil))) da_nil))))))))))))))))) (fun ds M Q h => ?_)
  obtain ⟨a, rfl, ns, hns, rfl, h⟩ := h
  walk_at "st"
  refine ⟨⟨ns, rfl⟩, fun p o hp ho => ?_⟩
  walk_at "st"
  intro q hq
  have hpq : p ≠ q := ne_of_fresh mput_same hq
  refine seq_cut (fun m1 M1 => ∃ (fs : List D) (x3 x4 x5 x6 x7 : Option D), m1 = [some (.lst (ns.map D.int)), some (.ref p), some (.ref q), x3, x4, x5, x6, x7, none, none, none] ∧ Dr M1 p ∧ M1 q = some (.lst fs) ∧ (∀ f ∈ fs, isF f) ∧ fs.length = 6) (fun Cn hC => ?_) ?_
  · walk_at "s1"
    intro _
    have hl : (rangeD 0 4).length = 4 := by simp [rangeD]
    generalize rangeD 0 4 = items at hl
    refine for_ind (fun items m1 M1 => ∃ (fs : List D) (x3 x4 x5 x6 x7 : Option D), m1 = [some (.lst (ns.map D.int)), some (.ref p), some (.ref q), x3, x4, x5, x6, x7, none, none, none] ∧ Dr M1 p ∧ M1 q = some (.lst fs) ∧ (∀ f ∈ fs, isF f) ∧ fs.length + items.length = 6) ?_ ?_ _ _ _ ?_
    · rintro m1 M1 ⟨fs, x3, x4, x5, x6, x7, rfl, e1, e2, e3, e4⟩
      exact ⟨srcV_none, hC _ _ ⟨fs, x3, x4, x5, x6, x7, rfl, e1, e2, e3, e4⟩⟩
    · rintro z items m1 M1 Cn' hC' ⟨fs, x3, x4, x5, x6, x7, rfl, e1, e2, e3, e4⟩
      refine ⟨srcV_none, ?_⟩
      rw [List.length_cons] at e4
      walk_at "st"
      refine ⟨e1, fun o1 n ho1 n0 n1 => ?_⟩
      walk_at "st"
      refine ⟨dr_put ho1, fun o2 d' ho2 d0 d1 => ?_⟩
      have dp : 0 < 1 + d' := by omega
      have d2 : Ab 201 (1 + d') := (Ab.small (by omega) (by omega) : Ab 10 1).mono (by decide) |>.add d1
      generalize 1 + d' = d at dp d2
      walk_at "st"
      refine ⟨dr_put ho2, fun o3 f' ho3 f0 f1 => ?_⟩
      have f2 : Ab 201 (1 + f') := (Ab.small (by omega) (by omega) : Ab 10 1).mono (by decide) |>.add f1
      refine ⟨dr_put ho3, fun o4 x ho4 hx => ?_⟩
      simp only [List.mem_cons, List.not_mem_nil, or_false] at hx
      obtain ⟨f, rfl, fp, fa⟩ : ∃ i : Int, x = .int i ∧ 0 < i ∧ Ab 201 i := by
        rcases hx with rfl | rfl | rfl | rfl
        · exact ⟨_, rfl, by decide, by unfold Ab; decide⟩
        · exact ⟨_, rfl, by decide, by unfold Ab; decide⟩
        · exact ⟨_, rfl, by decide, by unfold Ab; decide⟩
        · exact ⟨_, rfl, by omega, f2⟩
      have c1 := n1.cmul fa (by decide)
      have c2 := d2.cmul fa (by decide)
      have p1 : 0 ≤ n * f := Int.mul_nonneg n0 (by omega)
      have p2 : 0 < d * f := Int.mul_pos dp fp
      have b1 : Ab 450 (n * f) := (n1.mul fa).mono (by decide)
      have b2 : Ab 450 (d * f) := (d2.mul fa).mono (by decide)
      have b3 : Ab 8000 (d * f) := b2.mono (by decide)
      walk_at "st"
      refine ⟨c1, c2, p1, p2, b3, ?_⟩
      refine seq_cut (fun m2 M2 => M2 = mput M1 p o4 ∧ m2 = [some (.lst (ns.map D.int)), some (.ref p), some (.ref q), some z, some (.int n), some (.int d), some (.int f), some (fr (n * f) (d * f)), none, none, none]) (fun Cn2 hC2 => ?_) ?_
      · walk_at "s1"
        refine ⟨c1, c2, p2, b3, fr_ok _ _ 10, dp, d2.mono (by decide), (fr_mul n0 (by omega) fp).symm, fr_ok _ _ 10, hC2 _ _ ⟨rfl, rfl⟩⟩
      · rintro m2 M2 ⟨rfl, rfl⟩
        walk_at "rd"
        rw [mput_ne hpq.symm, e2]
        refine ⟨⟨_, rfl⟩, _, rfl, by omega, fg_of (hC' _ _ ⟨fs ++ [fr (n * f) (d * f)], _, _, _, _, _, rfl, dr_ne (dr_put ho4) hpq, mput_same, ?_, by rw [List.length_append, List.length_singleton]; omega⟩)⟩
        intro g hg
        rcases List.mem_append.mp hg with hg | hg
        · exact e3 g hg
        · obtain rfl : g = fr (n * f) (d * f) := by simpa using hg
          obtain ⟨x, y, h1, h2, h3, h4, h5⟩ := fr_low p1 p2 b1 b2
          exact ⟨x, y, h1, h2, h3, h4, h5⟩
    · refine ⟨[.tup [.int 0, .int 1], .tup [.int 1, .int 1]], none, none, none, none, none, rfl, dr_ne (dr_put ho) hpq, mput_same, ?_, by simp [hl]⟩
      intro f hf
      simp only [List.mem_cons, List.not_mem_nil, or_false] at hf
      rcases hf with rfl | rfl
      · exact ⟨0, 1, rfl, by decide, by decide, by unfold Ab; decide, by unfold Ab; decide⟩
      · exact ⟨1, 1, rfl, by decide, by decide, by unfold Ab; decide, by unfold Ab; decide⟩
  · rintro m1 M1 ⟨fs, x3, x4, x5, x6, x7, rfl, e1, e2, e3, e4⟩
    walk_at "st"
    obtain ⟨z, hz, hat⟩ := atI_lt (xs := fs) (i := 2) (by decide) (by omega)
    obtain ⟨x, y, rfl, x0, y0, xa, ya⟩ := e3 z hz
    rw [e2]
    have x1 : 0 ≤ x + 1 := by omega
    have xb : Ab 451 (x + 1) := xa.add ((Ab.small (by omega) (by omega) : Ab 10 1).mono (by decide))
    refine ⟨⟨_, rfl⟩, _, rfl, _, hat, _, items_en, _, atI_0 _ _, x, rfl, _, rfl, _, hat, _, items_en, _, atI_1 _ _ _, y, rfl, x1, y0, ya.mono (by decide), _, rfl, by omega, ?_⟩
    have hfs : ∀ f ∈ fs ++ [fr (x + 1) y], ∃ a b : Int, f = en (a, b) ∧ fsz (a, b) := by
      intro g hg
      rcases List.mem_append.mp hg with hg | hg
      · obtain ⟨a, b, h1, h2, h3, h4, h5⟩ := e3 g hg
        exact ⟨a, b, h1, h2, h3, h4.mono (by decide), h5.mono (by decide)⟩
      · obtain rfl : g = fr (x + 1) y := by simpa using hg
        obtain ⟨a, b, h1, h2, h3, h4, h5⟩ := fr_low x1 y0 xb (ya.mono (by decide))
        exact ⟨a, b, h1, h2, h3, h4.mono (by decide), h5.mono (by decide)⟩
    generalize fs ++ [fr (x + 1) y] = gs at hfs
    have e1' : Dr (mput M1 q (.lst gs)) p := dr_ne e1 hpq
    have e2' : mput M1 q (.lst gs) q = some (.lst gs) := mput_same
    generalize mput M1 q (.lst gs) = M2 at e1' e2'
    walk_at "st"
    refine ⟨e1', fun o2 u v ho2 u0 v0 ua va hg => ?_⟩
    walk_at "st"
    refine ⟨dr_put ho2, fun o3 f' ho3 f0 f1 => ?_⟩
    have fp : 0 < 1 + f' := by omega
    have fa : Ab 201 (1 + f') := (Ab.small (by omega) (by omega) : Ab 10 1).mono (by decide) |>.add f1
    generalize 1 + f' = f at fp fa
    have e3' : fr u v = en (u, v) := fr_one hg
    walk_at "st"
    refine ⟨ua.cmul fa (by decide), va.cmul fa (by decide), Int.mul_pos v0 fp, (va.mul fa).mono (by decide), (fr_mul (by omega) (by omega) fp).trans e3', ?_, ?_⟩
    · rw [← e3']
      exact fr_ok _ _ 10
    walk_at "st"
    refine ⟨(v, u), rfl, ⟨by omega, v0, ua.mono (by decide), va.mono (by decide)⟩, ⟨by omega, u0, va.mono (by decide), ua.mono (by decide)⟩, ?_, ?_⟩
    · show fr (u * v) (v * u) = _
      rw [Int.mul_comm v u]
      exact fr_same (Int.mul_pos u0 v0)
    have hq3 : mput M2 p o3 q = some (.lst gs) := by
      rw [mput_ne hpq.symm]
      exact e2'
    have hd3 : Dr (mput M2 p o3) p := dr_put ho3
    generalize mput M2 p o3 = M3 at hq3 hd3
    refine seq_cut (fun m4 M4 => M4 = M3 ∧ ∃ x9 x10 : Option D, m4 = [some (.lst (ns.map D.int)), some (.ref p), some (.ref q), x3, x4, x5, some (.int f), x7, some (en (u, v)), x9, x10]) (fun Cn hC => ?_) ?_
    · walk_at "s1"
      rw [hq3]
      refine ⟨_, rfl, fun _ => ?_⟩
      refine for_ind (fun items m4 M4 => (∀ f ∈ items, ∃ a b : Int, f = en (a, b) ∧ fsz (a, b)) ∧ M4 = M3 ∧ ∃ x9 x10 : Option D, m4 = [some (.lst (ns.map D.int)), some (.ref p), some (.ref q), x3, x4, x5, some (.int f), x7, some (en (u, v)), x9, x10]) ?_ ?_ _ _ _ ?_
      · rintro m4 M4 ⟨_, rfl, x9, x10, rfl⟩
        exact ⟨fun a e => by cases e; exact hq3, hC _ _ ⟨rfl, x9, x10, rfl⟩⟩
      · rintro zf items m4 M4 Cn1 hC1 ⟨hi, rfl, x9, x10, rfl⟩
        refine ⟨fun a e => by cases e; exact hq3, ?_⟩
        obtain ⟨a1, b1, rfl, s1⟩ := hi zf (by simp)
        walk_at "s1"
        rw [hq3]
        refine ⟨_, rfl, fun _ => ?_⟩
        refine for_ind (fun items2 m4 M5 => (∀ f ∈ items2, ∃ a b : Int, f = en (a, b) ∧ fsz (a, b)) ∧ M5 = M4 ∧ ∃ x10 : Option D, m4 = [some (.lst (ns.map D.int)), some (.ref p), some (.ref q), x3, x4, x5, some (.int f), x7, some (en (u, v)), some (en (a1, b1)), x10]) ?_ ?_ _ _ _ ?_
        · rintro m4 M5 ⟨_, rfl, x10, rfl⟩
          exact ⟨fun a e => by cases e; exact hq3, fg_of (hC1 _ _ ⟨fun g hg => hi g (by simp [hg]), rfl, _, _, rfl⟩)⟩
        · rintro zg items2 m4 M5 Cn2 hC2 ⟨hi2, rfl, x10, rfl⟩
          refine ⟨fun a e => by cases e; exact hq3, ?_⟩
          obtain ⟨a2, b2, rfl, s2⟩ := hi2 zg (by simp)
          walk_at "s1"
          exact ⟨s1, s2, fg_of (hC2 _ _ ⟨fun g hg => hi2 g (by simp [hg]), rfl, _, rfl⟩)⟩
        · exact ⟨hfs, rfl, _, rfl⟩
      · exact ⟨hfs, rfl, _, _, rfl⟩
    · rintro m4 M4 ⟨rfl, x9, x10, rfl⟩
      walk_at "rd"
      refine ⟨hd3, fun o5 f5 ho5 f50 f51 => ?_⟩
      have a5 : Ab 201 (1 + f5) := (Ab.small (by omega) (by omega) : Ab 10 1).mono (by decide) |>.add f51
      refine ⟨by omega, a5.mono (by decide), ?_, ?_⟩
      · exact fr_zero (by omega)
      refine ⟨(1, 2), rfl, (1, 2), rfl, ?_, ?_, ?_, ret_of (h _)⟩
      · exact ⟨by decide, by decide, by unfold Ab; decide, by unfold Ab; decide⟩
      · exact ⟨by decide, by decide, by unfold Ab; decide, by unfold Ab; decide⟩
      · rfl
end
theorem all_mk {P : Program} {w : World} {K : PySem.W.Frag} {h : Heap} {mg : Str → Option Value} {fa : Addr} (X : K.In h) (G : h.Ns mainGlobals mg) (hfa : mg "law" = some (.ref fa))
    {f0 : Addr} {oc0 : Value} {od0 an0 : Option Addr} {sl0 : Array (Option Value)} {kV0 dc0 pm0 cd0 ct0 : Value}
    (a0 : PySem.W.nsIn K mainGlobals "compare_keys" = some (some (.ref f0))) (l0 : K.lookup f0 = some ⟨oc0, od0, .func (PySem.W.fnOf "compare_keys" "compare_keys" (defArgs s_compare_keys) (defBody s_compare_keys) (defScope s_compare_keys) .none kV0 dc0 pm0 an0 cd0 ct0), sl0⟩) (c0 : PySem.W.codeIn K cd0 "compare_keys" = true) (k0 : PySem.W.keepIn K (.ref f0) = true)
    {f1 : Addr} {oc1 : Value} {od1 an1 : Option Addr} {sl1 : Array (Option Value)} {kV1 dc1 pm1 cd1 ct1 : Value}
    (a1 : PySem.W.nsIn K mainGlobals "fraction" = some (some (.ref f1))) (l1 : K.lookup f1 = some ⟨oc1, od1, .func (PySem.W.fnOf "fraction" "fraction" (defArgs s_fraction) (defBody s_fraction) (defScope s_fraction) .none kV1 dc1 pm1 an1 cd1 ct1), sl1⟩) (c1 : PySem.W.codeIn K cd1 "fraction" = true) (k1 : PySem.W.keepIn K (.ref f1) = true)
    {f2 : Addr} {oc2 : Value} {od2 an2 : Option Addr} {sl2 : Array (Option Value)} {kV2 dc2 pm2 cd2 ct2 : Value}
    (a2 : PySem.W.nsIn K mainGlobals "add" = some (some (.ref f2))) (l2 : K.lookup f2 = some ⟨oc2, od2, .func (PySem.W.fnOf "add" "add" (defArgs s_add) (defBody s_add) (defScope s_add) .none kV2 dc2 pm2 an2 cd2 ct2), sl2⟩) (c2 : PySem.W.codeIn K cd2 "add" = true) (k2 : PySem.W.keepIn K (.ref f2) = true)
    {f3 : Addr} {oc3 : Value} {od3 an3 : Option Addr} {sl3 : Array (Option Value)} {kV3 dc3 pm3 cd3 ct3 : Value}
    (a3 : PySem.W.nsIn K mainGlobals "subtract" = some (some (.ref f3))) (l3 : K.lookup f3 = some ⟨oc3, od3, .func (PySem.W.fnOf "subtract" "subtract" (defArgs s_subtract) (defBody s_subtract) (defScope s_subtract) .none kV3 dc3 pm3 an3 cd3 ct3), sl3⟩) (c3 : PySem.W.codeIn K cd3 "subtract" = true) (k3 : PySem.W.keepIn K (.ref f3) = true)
    {f4 : Addr} {oc4 : Value} {od4 an4 : Option Addr} {sl4 : Array (Option Value)} {kV4 dc4 pm4 cd4 ct4 : Value}
    (a4 : PySem.W.nsIn K mainGlobals "multiply" = some (some (.ref f4))) (l4 : K.lookup f4 = some ⟨oc4, od4, .func (PySem.W.fnOf "multiply" "multiply" (defArgs s_multiply) (defBody s_multiply) (defScope s_multiply) .none kV4 dc4 pm4 an4 cd4 ct4), sl4⟩) (c4 : PySem.W.codeIn K cd4 "multiply" = true) (k4 : PySem.W.keepIn K (.ref f4) = true)
    {f5 : Addr} {oc5 : Value} {od5 an5 : Option Addr} {sl5 : Array (Option Value)} {kV5 dc5 pm5 cd5 ct5 : Value}
    (a5 : PySem.W.nsIn K mainGlobals "divide" = some (some (.ref f5))) (l5 : K.lookup f5 = some ⟨oc5, od5, .func (PySem.W.fnOf "divide" "divide" (defArgs s_divide) (defBody s_divide) (defScope s_divide) .none kV5 dc5 pm5 an5 cd5 ct5), sl5⟩) (c5 : PySem.W.codeIn K cd5 "divide" = true) (k5 : PySem.W.keepIn K (.ref f5) = true)
    {f6 : Addr} {oc6 : Value} {od6 an6 : Option Addr} {sl6 : Array (Option Value)} {kV6 dc6 pm6 cd6 ct6 : Value}
    (a6 : PySem.W.nsIn K mainGlobals "compare_fractions" = some (some (.ref f6))) (l6 : K.lookup f6 = some ⟨oc6, od6, .func (PySem.W.fnOf "compare_fractions" "compare_fractions" (defArgs s_compare_fractions) (defBody s_compare_fractions) (defScope s_compare_fractions) .none kV6 dc6 pm6 an6 cd6 ct6), sl6⟩) (c6 : PySem.W.codeIn K cd6 "compare_fractions" = true) (k6 : PySem.W.keepIn K (.ref f6) = true)
    {f7 : Addr} {oc7 : Value} {od7 an7 : Option Addr} {sl7 : Array (Option Value)} {kV7 dc7 pm7 cd7 ct7 : Value}
    (a7 : PySem.W.nsIn K mainGlobals "_law_draws" = some (some (.ref f7))) (l7 : K.lookup f7 = some ⟨oc7, od7, .func (PySem.W.fnOf "_law_draws" "_law_draws" (defArgs s_l_draws) (defBody s_l_draws) (defScope s_l_draws) .none kV7 dc7 pm7 an7 cd7 ct7), sl7⟩) (c7 : PySem.W.codeIn K cd7 "_law_draws" = true) (k7 : PySem.W.keepIn K (.ref f7) = true)
    {f8 : Addr} {oc8 : Value} {od8 an8 : Option Addr} {sl8 : Array (Option Value)} {kV8 dc8 pm8 cd8 ct8 : Value}
    (a8 : PySem.W.nsIn K mainGlobals "_law_take" = some (some (.ref f8))) (l8 : K.lookup f8 = some ⟨oc8, od8, .func (PySem.W.fnOf "_law_take" "_law_take" (defArgs s_l_take) (defBody s_l_take) (defScope s_l_take) .none kV8 dc8 pm8 an8 cd8 ct8), sl8⟩) (c8 : PySem.W.codeIn K cd8 "_law_take" = true) (k8 : PySem.W.keepIn K (.ref f8) = true)
    {f9 : Addr} {oc9 : Value} {od9 an9 : Option Addr} {sl9 : Array (Option Value)} {kV9 dc9 pm9 cd9 ct9 : Value}
    (a9 : PySem.W.nsIn K mainGlobals "_law_pick" = some (some (.ref f9))) (l9 : K.lookup f9 = some ⟨oc9, od9, .func (PySem.W.fnOf "_law_pick" "_law_pick" (defArgs s_l_pick) (defBody s_l_pick) (defScope s_l_pick) .none kV9 dc9 pm9 an9 cd9 ct9), sl9⟩) (c9 : PySem.W.codeIn K cd9 "_law_pick" = true) (k9 : PySem.W.keepIn K (.ref f9) = true)
    {f10 : Addr} {oc10 : Value} {od10 an10 : Option Addr} {sl10 : Array (Option Value)} {kV10 dc10 pm10 cd10 ct10 : Value}
    (a10 : PySem.W.nsIn K mainGlobals "_law_same" = some (some (.ref f10))) (l10 : K.lookup f10 = some ⟨oc10, od10, .func (PySem.W.fnOf "_law_same" "_law_same" (defArgs s_l_same) (defBody s_l_same) (defScope s_l_same) .none kV10 dc10 pm10 an10 cd10 ct10), sl10⟩) (c10 : PySem.W.codeIn K cd10 "_law_same" = true) (k10 : PySem.W.keepIn K (.ref f10) = true)
    {f11 : Addr} {oc11 : Value} {od11 an11 : Option Addr} {sl11 : Array (Option Value)} {kV11 dc11 pm11 cd11 ct11 : Value}
    (a11 : PySem.W.nsIn K mainGlobals "_law_lowest" = some (some (.ref f11))) (l11 : K.lookup f11 = some ⟨oc11, od11, .func (PySem.W.fnOf "_law_lowest" "_law_lowest" (defArgs s_l_lowest) (defBody s_l_lowest) (defScope s_l_lowest) .none kV11 dc11 pm11 an11 cd11 ct11), sl11⟩) (c11 : PySem.W.codeIn K cd11 "_law_lowest" = true) (k11 : PySem.W.keepIn K (.ref f11) = true)
    {f12 : Addr} {oc12 : Value} {od12 an12 : Option Addr} {sl12 : Array (Option Value)} {kV12 dc12 pm12 cd12 ct12 : Value}
    (a12 : PySem.W.nsIn K mainGlobals "_law_integer" = some (some (.ref f12))) (l12 : K.lookup f12 = some ⟨oc12, od12, .func (PySem.W.fnOf "_law_integer" "_law_integer" (defArgs s_l_integer) (defBody s_l_integer) (defScope s_l_integer) .none kV12 dc12 pm12 an12 cd12 ct12), sl12⟩) (c12 : PySem.W.codeIn K cd12 "_law_integer" = true) (k12 : PySem.W.keepIn K (.ref f12) = true)
    {f13 : Addr} {oc13 : Value} {od13 an13 : Option Addr} {sl13 : Array (Option Value)} {kV13 dc13 pm13 cd13 ct13 : Value}
    (a13 : PySem.W.nsIn K mainGlobals "_law_part" = some (some (.ref f13))) (l13 : K.lookup f13 = some ⟨oc13, od13, .func (PySem.W.fnOf "_law_part" "_law_part" (defArgs s_l_part) (defBody s_l_part) (defScope s_l_part) .none kV13 dc13 pm13 an13 cd13 ct13), sl13⟩) (c13 : PySem.W.codeIn K cd13 "_law_part" = true) (k13 : PySem.W.keepIn K (.ref f13) = true)
    {f14 : Addr} {oc14 : Value} {od14 an14 : Option Addr} {sl14 : Array (Option Value)} {kV14 dc14 pm14 cd14 ct14 : Value}
    (a14 : PySem.W.nsIn K mainGlobals "_law_neighbours" = some (some (.ref f14))) (l14 : K.lookup f14 = some ⟨oc14, od14, .func (PySem.W.fnOf "_law_neighbours" "_law_neighbours" (defArgs s_l_neighbours) (defBody s_l_neighbours) (defScope s_l_neighbours) .none kV14 dc14 pm14 an14 cd14 ct14), sl14⟩) (c14 : PySem.W.codeIn K cd14 "_law_neighbours" = true) (k14 : PySem.W.keepIn K (.ref f14) = true)
    {f15 : Addr} {oc15 : Value} {od15 an15 : Option Addr} {sl15 : Array (Option Value)} {kV15 dc15 pm15 cd15 ct15 : Value}
    (a15 : PySem.W.nsIn K mainGlobals "_law_two_are_right" = some (some (.ref f15))) (l15 : K.lookup f15 = some ⟨oc15, od15, .func (PySem.W.fnOf "_law_two_are_right" "_law_two_are_right" (defArgs s_l_two_are_right) (defBody s_l_two_are_right) (defScope s_l_two_are_right) .none kV15 dc15 pm15 an15 cd15 ct15), sl15⟩) (c15 : PySem.W.codeIn K cd15 "_law_two_are_right" = true) (k15 : PySem.W.keepIn K (.ref f15) = true)
    {f16 : Addr} {oc16 : Value} {od16 an16 : Option Addr} {sl16 : Array (Option Value)} {kV16 dc16 pm16 cd16 ct16 : Value}
    (a16 : PySem.W.nsIn K mainGlobals "law" = some (some (.ref f16))) (l16 : K.lookup f16 = some ⟨oc16, od16, .func (PySem.W.fnOf "law" "law" (defArgs s_law) (defBody s_law) (defScope s_law) .none kV16 dc16 pm16 an16 cd16 ct16), sl16⟩) (c16 : PySem.W.codeIn K cd16 "law" = true) (k16 : PySem.W.keepIn K (.ref f16) = true)
    (z_abs : PySem.W.nsIn K mainGlobals "abs" = some none)    (z_bool : PySem.W.nsIn K mainGlobals "bool" = some none)    (z_int : PySem.W.nsIn K mainGlobals "int" = some none)    (z_isinstance : PySem.W.nsIn K mainGlobals "isinstance" = some none)    (z_len : PySem.W.nsIn K mainGlobals "len" = some none)    (z_list : PySem.W.nsIn K mainGlobals "list" = some none)    (z_range : PySem.W.nsIn K mainGlobals "range" = some none)    (z_str : PySem.W.nsIn K mainGlobals "str" = some none)    (z_tuple : PySem.W.nsIn K mainGlobals "tuple" = some none)    (y_gcd : PySem.W.nsIn K mainGlobals "gcd" = some (some (.builtin "math.gcd"))) :
    ∃ fd : FuncData, (∀ (s : Shared) (v : Value), BindsTo s fd ⟨[v], []⟩ [("script", v)]) ∧ ∀ base : Heap, K.In base → base.Ns mainGlobals mg → FnOk P w K mg base CX0 15 fa fd ["script"] (upSp K sp_law) := by
  have e := hfa.symm.trans (PySem.W.mg_of X G a16)
  cases e
  have D_compare_keys : Def K mg "compare_keys" s_compare_keys ["one", "other"] := ⟨_, _, fun_mk (st := s_compare_keys) l0 c0 k0, PySem.W.mg_of X G a0, (fun_mk (st := s_compare_keys) l0 c0 k0).binds (ps := ["one", "other"]) fun _ _ _ _ _ _ us hl => match us, hl with | [_, _], _ => rfl⟩
  have D_fraction : Def K mg "fraction" s_fraction ["n", "d"] := ⟨_, _, fun_mk (st := s_fraction) l1 c1 k1, PySem.W.mg_of X G a1, (fun_mk (st := s_fraction) l1 c1 k1).binds (ps := ["n", "d"]) fun _ _ _ _ _ _ us hl => match us, hl with | [_, _], _ => rfl⟩
  have D_add : Def K mg "add" s_add ["f", "g"] := ⟨_, _, fun_mk (st := s_add) l2 c2 k2, PySem.W.mg_of X G a2, (fun_mk (st := s_add) l2 c2 k2).binds (ps := ["f", "g"]) fun _ _ _ _ _ _ us hl => match us, hl with | [_, _], _ => rfl⟩
  have D_subtract : Def K mg "subtract" s_subtract ["f", "g"] := ⟨_, _, fun_mk (st := s_subtract) l3 c3 k3, PySem.W.mg_of X G a3, (fun_mk (st := s_subtract) l3 c3 k3).binds (ps := ["f", "g"]) fun _ _ _ _ _ _ us hl => match us, hl with | [_, _], _ => rfl⟩
  have D_multiply : Def K mg "multiply" s_multiply ["f", "g"] := ⟨_, _, fun_mk (st := s_multiply) l4 c4 k4, PySem.W.mg_of X G a4, (fun_mk (st := s_multiply) l4 c4 k4).binds (ps := ["f", "g"]) fun _ _ _ _ _ _ us hl => match us, hl with | [_, _], _ => rfl⟩
  have D_divide : Def K mg "divide" s_divide ["f", "g"] := ⟨_, _, fun_mk (st := s_divide) l5 c5 k5, PySem.W.mg_of X G a5, (fun_mk (st := s_divide) l5 c5 k5).binds (ps := ["f", "g"]) fun _ _ _ _ _ _ us hl => match us, hl with | [_, _], _ => rfl⟩
  have D_compare_fractions : Def K mg "compare_fractions" s_compare_fractions ["f", "g"] := ⟨_, _, fun_mk (st := s_compare_fractions) l6 c6 k6, PySem.W.mg_of X G a6, (fun_mk (st := s_compare_fractions) l6 c6 k6).binds (ps := ["f", "g"]) fun _ _ _ _ _ _ us hl => match us, hl with | [_, _], _ => rfl⟩
  have D_l_draws : Def K mg "_law_draws" s_l_draws ["script", "many"] := ⟨_, _, fun_mk (st := s_l_draws) l7 c7 k7, PySem.W.mg_of X G a7, (fun_mk (st := s_l_draws) l7 c7 k7).binds (ps := ["script", "many"]) fun _ _ _ _ _ _ us hl => match us, hl with | [_, _], _ => rfl⟩
  have D_l_take : Def K mg "_law_take" s_l_take ["draws", "many"] := ⟨_, _, fun_mk (st := s_l_take) l8 c8 k8, PySem.W.mg_of X G a8, (fun_mk (st := s_l_take) l8 c8 k8).binds (ps := ["draws", "many"]) fun _ _ _ _ _ _ us hl => match us, hl with | [_, _], _ => rfl⟩
  have D_l_pick : Def K mg "_law_pick" s_l_pick ["draws", "row"] := ⟨_, _, fun_mk (st := s_l_pick) l9 c9 k9, PySem.W.mg_of X G a9, (fun_mk (st := s_l_pick) l9 c9 k9).binds (ps := ["draws", "row"]) fun _ _ _ _ _ _ us hl => match us, hl with | [_, _], _ => rfl⟩
  have D_l_same : Def K mg "_law_same" s_l_same ["actual", "due"] := ⟨_, _, fun_mk (st := s_l_same) l10 c10 k10, PySem.W.mg_of X G a10, (fun_mk (st := s_l_same) l10 c10 k10).binds (ps := ["actual", "due"]) fun _ _ _ _ _ _ us hl => match us, hl with | [_, _], _ => rfl⟩
  have D_l_lowest : Def K mg "_law_lowest" s_l_lowest ["n", "d"] := ⟨_, _, fun_mk (st := s_l_lowest) l11 c11 k11, PySem.W.mg_of X G a11, (fun_mk (st := s_l_lowest) l11 c11 k11).binds (ps := ["n", "d"]) fun _ _ _ _ _ _ us hl => match us, hl with | [_, _], _ => rfl⟩
  have D_l_integer : Def K mg "_law_integer" s_l_integer ["draws"] := ⟨_, _, fun_mk (st := s_l_integer) l12 c12 k12, PySem.W.mg_of X G a12, (fun_mk (st := s_l_integer) l12 c12 k12).binds (ps := ["draws"]) fun _ _ _ _ _ _ us hl => match us, hl with | [_], _ => rfl⟩
  have D_l_part : Def K mg "_law_part" s_l_part ["draws"] := ⟨_, _, fun_mk (st := s_l_part) l13 c13 k13, PySem.W.mg_of X G a13, (fun_mk (st := s_l_part) l13 c13 k13).binds (ps := ["draws"]) fun _ _ _ _ _ _ us hl => match us, hl with | [_], _ => rfl⟩
  have D_l_neighbours : Def K mg "_law_neighbours" s_l_neighbours ["draws"] := ⟨_, _, fun_mk (st := s_l_neighbours) l14 c14 k14, PySem.W.mg_of X G a14, (fun_mk (st := s_l_neighbours) l14 c14 k14).binds (ps := ["draws"]) fun _ _ _ _ _ _ us hl => match us, hl with | [_], _ => rfl⟩
  have D_l_two_are_right : Def K mg "_law_two_are_right" s_l_two_are_right ["f", "g"] := ⟨_, _, fun_mk (st := s_l_two_are_right) l15 c15 k15, PySem.W.mg_of X G a15, (fun_mk (st := s_l_two_are_right) l15 c15 k15).binds (ps := ["f", "g"]) fun _ _ _ _ _ _ us hl => match us, hl with | [_, _], _ => rfl⟩
  have D_law : Def K mg "law" s_law ["script"] := ⟨_, _, fun_mk (st := s_law) l16 c16 k16, PySem.W.mg_of X G a16, (fun_mk (st := s_law) l16 c16 k16).binds (ps := ["script"]) fun _ _ _ _ _ _ us hl => match us, hl with | [_], _ => rfl⟩
  have B : Bi mg := ⟨PySem.W.mg_none_of X G z_abs, PySem.W.mg_none_of X G z_bool, PySem.W.mg_none_of X G z_int, PySem.W.mg_none_of X G z_isinstance, PySem.W.mg_none_of X G z_len, PySem.W.mg_none_of X G z_list, PySem.W.mg_none_of X G z_range, PySem.W.mg_none_of X G z_str, PySem.W.mg_none_of X G z_tuple⟩
  have I : Im mg := ⟨PySem.W.mg_of X G y_gcd, True.intro⟩
  refine ⟨PySem.W.fnOf "law" "law" (defArgs s_law) (defBody s_law) (defScope s_law) .none kV16 dc16 pm16 an16 cd16 ct16, fun s v => .of_eq rfl, fun base _ _ => ?_⟩
  have C_compare_keys := ok_compare_keys (P := P) (w := w) (base := base) D_compare_keys B I 
  have C_fraction := ok_fraction (P := P) (w := w) (base := base) D_fraction B I 
  have C_add := ok_add (P := P) (w := w) (base := base) D_add B I C_fraction
  have C_subtract := ok_subtract (P := P) (w := w) (base := base) D_subtract B I C_fraction
  have C_multiply := ok_multiply (P := P) (w := w) (base := base) D_multiply B I C_fraction
  have C_divide := ok_divide (P := P) (w := w) (base := base) D_divide B I C_fraction
  have C_compare_fractions := ok_compare_fractions (P := P) (w := w) (base := base) D_compare_fractions B I C_compare_keys
  have C_l_draws := ok_l_draws (P := P) (w := w) (base := base) D_l_draws B I 
  have C_l_take := ok_l_take (P := P) (w := w) (base := base) D_l_take B I 
  have C_l_pick := ok_l_pick (P := P) (w := w) (base := base) D_l_pick B I C_l_take
  have C_l_same := ok_l_same (P := P) (w := w) (base := base) D_l_same B I 
  have C_l_lowest := ok_l_lowest (P := P) (w := w) (base := base) D_l_lowest B I 
  have C_l_integer := ok_l_integer (P := P) (w := w) (base := base) D_l_integer B I C_l_take C_l_pick
  have C_l_part := ok_l_part (P := P) (w := w) (base := base) D_l_part B I C_l_take C_l_pick C_l_integer
  have C_l_neighbours := ok_l_neighbours (P := P) (w := w) (base := base) D_l_neighbours B I C_l_take
  have C_l_two_are_right := ok_l_two_are_right (P := P) (w := w) (base := base) D_l_two_are_right B I C_add C_subtract C_multiply C_divide C_compare_fractions C_l_same C_l_lowest
  exact ok_law (fun_mk (st := s_law) l16 c16 k16) B I C_fraction C_add C_multiply C_l_draws C_l_pick C_l_same C_l_lowest C_l_part C_l_neighbours C_l_two_are_right
end Law
open PySem PySem.W PyProof.Rows
set_option maxHeartbeats 0 in
theorem PySem.Challenge.cw_doubtbook_k06_fractions_holds : PySem.Challenge.rw_doubtbook_k06_fractions.Holds := by
  w_on; o_law; k_head; (case hw => w_witness2)
  k_fill
  refine L2.walk_of (l := PySem.Challenge.rw_doubtbook_k06_fractions) (n := 63) (k := 15) (x := "script") (CX := fun _ => L2.CX0) (sp := fun w => DL.upSp _ DL.sp_law) rfl (by decide) rfl ⟨rfl, by decide, by decide⟩ (fun w h Y => PySem.W.kIn_of Y) ?F (fun w H a ns hl hO hS => DL.law_start hl hO hS) (fun _ _ _ _ _ h => h)
  case F =>
    intro w mg fa h KX G hmg
    refine' Law.all_mk KX G hmg ?a0 ?l0 ?c0 ?k0 ?a1 ?l1 ?c1 ?k1 ?a2 ?l2 ?c2 ?k2 ?a3 ?l3 ?c3 ?k3 ?a4 ?l4 ?c4 ?k4 ?a5 ?l5 ?c5 ?k5 ?a6 ?l6 ?c6 ?k6 ?a7 ?l7 ?c7 ?k7 ?a8 ?l8 ?c8 ?k8 ?a9 ?l9 ?c9 ?k9 ?a10 ?l10 ?c10 ?k10 ?a11 ?l11 ?c11 ?k11 ?a12 ?l12 ?c12 ?k12 ?a13 ?l13 ?c13 ?k13 ?a14 ?l14 ?c14 ?k14 ?a15 ?l15 ?c15 ?k15 ?a16 ?l16 ?c16 ?k16 ?z_abs ?z_bool ?z_int ?z_isinstance ?z_len ?z_list ?z_range ?z_str ?z_tuple ?y_gcd
    (case a0 => k_is); (case l0 => k_is); (case c0 => k_is); (case k0 => k_is); (case a1 => k_is); (case l1 => k_is); (case c1 => k_is); (case k1 => k_is); (case a2 => k_is); (case l2 => k_is); (case c2 => k_is); (case k2 => k_is); (case a3 => k_is); (case l3 => k_is); (case c3 => k_is); (case k3 => k_is); (case a4 => k_is); (case l4 => k_is); (case c4 => k_is); (case k4 => k_is); (case a5 => k_is); (case l5 => k_is); (case c5 => k_is); (case k5 => k_is); (case a6 => k_is); (case l6 => k_is); (case c6 => k_is); (case k6 => k_is); (case a7 => k_is); (case l7 => k_is); (case c7 => k_is); (case k7 => k_is); (case a8 => k_is); (case l8 => k_is); (case c8 => k_is); (case k8 => k_is); (case a9 => k_is); (case l9 => k_is); (case c9 => k_is); (case k9 => k_is); (case a10 => k_is); (case l10 => k_is); (case c10 => k_is); (case k10 => k_is); (case a11 => k_is); (case l11 => k_is); (case c11 => k_is); (case k11 => k_is); (case a12 => k_is); (case l12 => k_is); (case c12 => k_is); (case k12 => k_is); (case a13 => k_is); (case l13 => k_is); (case c13 => k_is); (case k13 => k_is); (case a14 => k_is); (case l14 => k_is); (case c14 => k_is); (case k14 => k_is); (case a15 => k_is); (case l15 => k_is); (case c15 => k_is); (case k15 => k_is); (case a16 => k_is); (case l16 => k_is); (case c16 => k_is); (case k16 => k_is); (case z_abs => k_is); (case z_bool => k_is); (case z_int => k_is); (case z_isinstance => k_is); (case z_len => k_is); (case z_list => k_is); (case z_range => k_is); (case z_str => k_is); (case z_tuple => k_is); (case y_gcd => k_is)
