import PyProof.Rows.All
import Wide.All
import OpenK.AllK
import Wide.FinOn
import HandS.ForMost
import HandS.Wide
import HandS.WideBits
import HandS.Gcd
import HandS.Deep
import HandS.IsInst
import KE.KeyNested
import HandS.Lambda
import HandS.TupAny
import HandS.Zip
import HandS.Rev
import HandS.Comp
import HandS.Conv
import HandS.Iter
import HandS.Text
import KE.SortData
import PyProof.StrOps2
import PyProof.Draws
import PyProof.EnumMake
import KE.SortKeyHeap
import HandS.SortKw
import KE.KSortTup
import HandS.Exc
import HandS.TupMul
import HandS.DictComp
import KE.DataCmp
import HandS.JoinGen
import KE.KDictCopyH
import HandS.EndTab
import HandS.EndOwn
import HandS.SetFor
import HandS.Strs
import HandS.Star
import HandS.Dict
import HandS.TupLen
import KE.DatumOrd
import PyProof.Rows.Tup
import HandS.SetKeys
import HandS.DictTup
import PySem.Challenge.RW_doubtbook_k08_cut_reports_and_told_rows
set_option Elab.async false
set_option linter.all false
set_option maxRecDepth 100000
/-! DL: readings over deep values (D): tuples and frozen lists are plain data, the heap holds only what is still being changed. -/
namespace DL
open PySem PySem.Spec PyProof.Rows L2

inductive D where
  | non
  | bl (b : Bool)
  | int (i : Int)
  | str (x : Str)
  | tup (xs : List D)
  | lst (xs : List D)
  | dct (kvs : List (D × D))
  /-- a frozen dict whose keys are tuples -/
  | dmt (w : World) (kvs : List (D × D))
  | ref (a : Addr)
  | ty (n : String)
instance : Inhabited D := ⟨.non⟩
/-- what a mutable address holds -/
inductive DO where
  | lst (xs : List D)
  | dct (w : World) (kvs : List (D × D))
  /-- a table of code objects, all of the name q -/
  | tab (q : Str)
  /-- a dict whose keys are ints and texts -/
  | dk (kvs : List (D × D))
abbrev SL := L2.St
abbrev DSt := List (Option D)
abbrev DM := Addr → Option DO
def mput (M : DM) (a : Addr) (o : DO) : DM := fun b => if b = a then some o else M b
def mdel (M : DM) (a : Addr) : DM := fun b => if b = a then none else M b
theorem mput_same {M : DM} {a : Addr} {o : DO} : mput M a o a = some o := by
  unfold mput
  simp
theorem mput_ne {M : DM} {a b : Addr} {o : DO} (h : b ≠ a) : mput M a o b = M b := by
  unfold mput
  simp [h]
theorem mput_mput {M : DM} {a : Addr} {o o' : DO} : mput (mput M a o) a o' = mput M a o' := by
  funext b
  unfold mput
  split <;> rfl
theorem mdel_mput {M : DM} {a : Addr} {o : DO} (h : M a = none) : mdel (mput M a o) a = M := by
  funext b
  unfold mdel mput
  split
  · next e => rw [e, h]
  · rfl
theorem mput_comm {M : DM} {a b : Addr} {o o' : DO} (h : a ≠ b) : mput (mput M a o) b o' = mput (mput M b o') a o := by
  funext c
  unfold mput
  by_cases h1 : c = a
  · have h2 : ¬ c = b := fun z => h (h1.symm.trans z)
    simp only [if_pos h1, if_neg h2]
  · simp only [if_neg h1]
/-- M is part of N -/
def MLe (M N : DM) : Prop := ∀ a o, M a = some o → N a = some o
theorem MLe.refl (M : DM) : MLe M M := fun _ _ h => h
theorem MLe.put {M N : DM} {a : Addr} {o : DO} (l : MLe M N) (h : M a = none) : MLe M (mput N a o) := fun b p e => by
  have : b ≠ a := fun z => by
    rw [z, h] at e
    cases e
  rw [mput_ne this]
  exact l b p e
theorem MLe.both {M N : DM} {a : Addr} {o : DO} (l : MLe M N) : MLe (mput M a o) (mput N a o) := fun b p e => by
  by_cases h : b = a
  · subst h
    rw [mput_same] at e ⊢
    exact e
  · rw [mput_ne h] at e ⊢
    exact l b p e

/-- a list that nobody will change -/
def FrzL (K : PySem.W.Frag) (H : Hp) (a : Addr) (vs : List V) : Prop :=
  (∃ o, H a = some (.frz o (.lst vs))) ∨
  ∃ (o : Obj) (its : Array Value) (n : Nat), K.lookup a = some o ∧ o.cls = .type "list" ∧ o.dict = none ∧
    o.data = .seq its n ∧ its.size ≤ sizeLine ∧ Vals vs its.toList
theorem FrzL.seq {K : PySem.W.Frag} {H : Hp} {a : Addr} {vs : List V} (h : FrzL K H a vs) : SqL K H a vs := by
  rcases h with ⟨o, h⟩ | h
  · exact .inl (.inr ⟨o, h⟩)
  · exact .inr h

/-- tuples and frozen things stay -/
structure Grow (H H' : Hp) : Prop where
  tups : ∀ b xs, H b = some (.tup xs) → H' b = some (.tup xs)
  frzs : ∀ b o u, H b = some (.frz o u) → H' b = some (.frz o u)
  cods : ∀ b q, H b = some (LamX.CodeO b q) → H' b = some (LamX.CodeO b q)
theorem Grow.refl (H : Hp) : Grow H H := ⟨fun _ _ h => h, fun _ _ _ h => h, fun _ _ h => h⟩
theorem Grow.trans {H H1 H2 : Hp} (a : Grow H H1) (b : Grow H1 H2) : Grow H H2 :=
  ⟨fun c xs h => b.tups c xs (a.tups c xs h), fun c o u h => b.frzs c o u (a.frzs c o u h), fun c q h => b.cods c q (a.cods c q h)⟩
theorem Grow.new {H : Hp} {p : Addr} {o : HO} (h : H p = none) : Grow H (upd H p o) :=
  ⟨fun b xs e => by rw [upd_ne (ne_of_none e h)]; exact e, fun b q u e => by rw [upd_ne (ne_of_none e h)]; exact e, fun b q e => by rw [upd_ne (ne_of_none e h)]; exact e⟩
theorem Grow.put {H : Hp} {p : Addr} {vs : List V} {o : HO} (h : H p = some (.lst vs)) : Grow H (upd H p o) :=
  ⟨fun b xs e => by rw [upd_ne (ne_of e h (by intro z; cases z))]; exact e,
   fun b q u e => by rw [upd_ne (ne_of e h (by intro z; cases z))]; exact e, fun b q e => by rw [upd_ne (ne_of e h (by intro z; cases z))]; exact e⟩
theorem FrzL.grow {K : PySem.W.Frag} {H H' : Hp} {a : Addr} {vs : List V} (h : FrzL K H a vs) (g : Grow H H') : FrzL K H' a vs := by
  rcases h with ⟨o, h⟩ | h
  · exact .inl ⟨o, g.frzs _ _ _ h⟩
  · exact .inr h
theorem sqT_grow {K : PySem.W.Frag} {H H' : Hp} {a : Addr} {vs : List V} (h : SqT K H a vs) (g : Grow H H') : SqT K H' a vs := by
  rcases h with (h | ⟨o, h⟩) | h
  · exact .inl (.inl (g.tups _ _ h))
  · exact .inl (.inr ⟨o, g.frzs _ _ _ h⟩)
  · exact .inr h

/-! ### dicts: the keys are tuples of whole numbers, texts, None and such tuples -/
mutual
def nk : D → NestedKey
  | .int i => .num i
  | .str x => .text x
  | .tup xs => .tup (nks xs)
  | .non => .none
  | .bl _ => .none
  | .lst _ => .none
  | .dct _ => .none
  | .dmt _ _ => .none
  | .ref _ => .none
  | .ty _ => .none
def nks : List D → List NestedKey
  | [] => []
  | x :: xs => nk x :: nks xs
end
mutual
/-- a key, or a part of one -/
def kOk : D → Bool
  | .int _ => true
  | .str _ => true
  | .tup xs => kOks xs
  | .non => true
  | .bl _ => false
  | .lst _ => false
  | .dct _ => false
  | .dmt _ _ => false
  | .ref _ => false
  | .ty _ => false
def kOks : List D → Bool
  | [] => true
  | x :: xs => kOk x && kOks xs
end
/-- the dict at a -/
def DictO (w : World) (a : Addr) (es : List (NestedKey × Addr × V)) : HO := .ext fun h => ∃ xs : List (NestedKey × Addr × Value), Paired (fun p q => p.1 = q.1 ∧ p.2.1 = q.2.1 ∧ RelV p.2.2 q.2.2) es xs ∧
  (∃ o ents ep, h.get? a = some o ∧ o.ExactDict ∧ o.data = .dict ents ep ∧ ents.toList = xs.map fun x => ⟨x.1.hash w, .ref x.2.1, x.2.2⟩) ∧ (xs.map (·.1)).Nodup ∧ (a == sysModules) = false
def kD : Key → D
  | .inl i => .int i
  | .inr x => .str x
mutual
inductive Rep (K : PySem.W.Frag) (H : Hp) : D → V → Prop
  | non : Rep K H .non .non
  | bl (b : Bool) : Rep K H (.bl b) (.bl b)
  | int (i : Int) : Rep K H (.int i) (.int i)
  | str (x : Str) : Rep K H (.str x) (.str x)
  | tup {xs : List D} {a : Addr} {vs : List V} : SqT K H a vs → vs.length ≤ sizeLine → RepL K H xs vs → Rep K H (.tup xs) (.ref a)
  | lst {xs : List D} {a : Addr} {vs : List V} : FrzL K H a vs → vs.length ≤ sizeLine → RepL K H xs vs → Rep K H (.lst xs) (.ref a)
  | ref (a : Addr) : Rep K H (.ref a) (.ref a)
  | ty (n : String) : Rep K H (.ty n) (.ty n)
  | dct {kvs : List (D × D)} {a : Addr} {o : Obj} {es : List (Key × V)} : H a = some (.frz o (.dK es)) → es.length ≤ sizeLine → RepK K H kvs es → Rep K H (.dct kvs) (.ref a)
  | dmt {w : World} {kvs : List (D × D)} {a : Addr} {o : Obj} {es : List (NestedKey × Addr × V)} : H a = some (.frz o (DictO w a es)) → es.length ≤ sizeLine → RepKV K H kvs es → Rep K H (.dmt w kvs) (.ref a)
inductive RepL (K : PySem.W.Frag) (H : Hp) : List D → List V → Prop
  | nil : RepL K H [] []
  | cons {d : D} {v : V} {ds : List D} {vs : List V} : Rep K H d v → RepL K H ds vs → RepL K H (d :: ds) (v :: vs)
/-- the pairs of a dict whose keys are ints and texts -/
inductive RepK (K : PySem.W.Frag) (H : Hp) : List (D × D) → List (Key × V) → Prop
  | nil : RepK K H [] []
  | cons {k : Key} {d : D} {v : V} {kvs : List (D × D)} {es : List (Key × V)} : Rep K H d v → RepK K H kvs es → RepK K H ((kD k, d) :: kvs) ((k, v) :: es)
/-- .. whose keys are tuples -/
inductive RepKV (K : PySem.W.Frag) (H : Hp) : List (D × D) → List (NestedKey × Addr × V) → Prop
  | nil : RepKV K H [] []
  | cons {k v : D} {b : Addr} {y : V} {kvs : List (D × D)} {es : List (NestedKey × Addr × V)} : Rep K H k (.ref b) → kOk k = true → (nk k).depth ≤ 8 → Rep K H v y → RepKV K H kvs es → RepKV K H ((k, v) :: kvs) ((nk k, b, y) :: es)
end
section
variable {K : PySem.W.Frag} {H H' : Hp}
mutual
theorem Rep.grow {d : D} {v : V} (r : Rep K H d v) (g : Grow H H') : Rep K H' d v := match r with
  | .non => .non
  | .bl b => .bl b
  | .int i => .int i
  | .str x => .str x
  | .tup h z l => .tup (sqT_grow h g) z (l.grow g)
  | .lst h z l => .lst (h.grow g) z (l.grow g)
  | .ref a => .ref a
  | .ty n => .ty n
  | .dct h z l => .dct (g.frzs _ _ _ h) z (l.grow g)
  | .dmt h z l => .dmt (g.frzs _ _ _ h) z (l.grow' g)
theorem RepL.grow {ds : List D} {vs : List V} (r : RepL K H ds vs) (g : Grow H H') : RepL K H' ds vs := match r with
  | .nil => .nil
  | .cons h l => .cons (h.grow g) (l.grow g)
theorem RepK.grow {kvs : List (D × D)} {es : List (Key × V)} (r : RepK K H kvs es) (g : Grow H H') : RepK K H' kvs es := match r with
  | .nil => .nil
  | .cons h l => .cons (h.grow g) (l.grow g)
theorem RepKV.grow' {kvs : List (D × D)} {es : List (NestedKey × Addr × V)} (r : RepKV K H kvs es) (g : Grow H H') : RepKV K H' kvs es := match r with
  | .nil => .nil
  | .cons a b c d e => .cons (a.grow g) b c (d.grow g) (e.grow' g)
end
theorem RepKV.grow {K : PySem.W.Frag} {H H' : Hp} (g : Grow H H') {kvs : List (D × D)} {es : List (NestedKey × Addr × V)} (r : RepKV K H kvs es) : RepKV K H' kvs es := r.grow' g
theorem RepL.length : ∀ {ds : List D} {vs : List V}, RepL K H ds vs → ds.length = vs.length
  | _, _, .nil => rfl
  | _, _, .cons _ l => congrArg (· + 1) l.length
theorem RepL.get : ∀ {ds : List D} {vs : List V} {i : Nat} {d : D}, RepL K H ds vs → ds[i]? = some d → ∃ v, vs[i]? = some v ∧ Rep K H d v
  | _, _, _, _, .nil, e => by simp at e
  | _, _, 0, _, .cons h _, e => by
    simp at e
    subst e
    exact ⟨_, rfl, h⟩
  | _, _, i + 1, d, .cons _ l, e => by
    obtain ⟨v, h1, h2⟩ := RepL.get (i := i) (d := d) l (by simpa using e)
    exact ⟨v, by simpa using h1, h2⟩
theorem RepL.get' : ∀ {ds : List D} {vs : List V} {i : Nat} {v : V}, RepL K H ds vs → vs[i]? = some v → ∃ d, ds[i]? = some d ∧ Rep K H d v
  | _, _, _, _, .nil, e => by simp at e
  | _, _, 0, _, .cons h _, e => by
    simp at e
    subst e
    exact ⟨_, rfl, h⟩
  | _, _, i + 1, d, .cons _ l, e => by
    obtain ⟨v, h1, h2⟩ := RepL.get' (i := i) (v := d) l (by simpa using e)
    exact ⟨v, by simpa using h1, h2⟩
theorem RepL.append : ∀ {ds es : List D} {vs ws : List V}, RepL K H ds vs → RepL K H es ws → RepL K H (ds ++ es) (vs ++ ws)
  | _, _, _, _, .nil, m => m
  | _, _, _, _, .cons h l, m => .cons h (l.append m)
theorem RepL.one {d : D} {v : V} (h : Rep K H d v) : RepL K H [d] [v] := .cons h .nil
theorem RepL.take : ∀ (n : Nat) {ds : List D} {vs : List V}, RepL K H ds vs → RepL K H (ds.take n) (vs.take n)
  | 0, _, _, _ => .nil
  | _ + 1, _, _, .nil => .nil
  | n + 1, _, _, .cons h l => .cons h (RepL.take n l)
theorem RepL.drop : ∀ (n : Nat) {ds : List D} {vs : List V}, RepL K H ds vs → RepL K H (ds.drop n) (vs.drop n)
  | 0, _, _, r => r
  | _ + 1, _, _, .nil => .nil
  | n + 1, _, _, .cons _ l => RepL.drop n l
theorem RepL.reverse : ∀ {ds : List D} {vs : List V}, RepL K H ds vs → RepL K H ds.reverse vs.reverse
  | _, _, .nil => .nil
  | _, _, .cons h l => by
    rw [List.reverse_cons, List.reverse_cons]
    exact l.reverse.append (.one h)
theorem RepL.dropLast {ds : List D} {vs : List V} (r : RepL K H ds vs) : RepL K H ds.dropLast vs.dropLast := by
  rw [List.dropLast_eq_take, List.dropLast_eq_take, r.length]
  exact r.take _
theorem RepL.set : ∀ {ds : List D} {vs : List V} (i : Nat) {d : D} {v : V}, RepL K H ds vs → Rep K H d v → RepL K H (ds.set i d) (vs.set i v)
  | _, _, _, _, _, .nil, _ => .nil
  | _, _, 0, _, _, .cons _ l, r => .cons r l
  | _, _, i + 1, _, _, .cons h l, r => .cons h (RepL.set i l r)
theorem RepL.eraseIdx : ∀ {ds : List D} {vs : List V} (i : Nat), RepL K H ds vs → RepL K H (ds.eraseIdx i) (vs.eraseIdx i)
  | _, _, _, .nil => .nil
  | _, _, 0, .cons _ l => l
  | _, _, i + 1, .cons h l => .cons h (RepL.eraseIdx i l)
theorem repL_ints : ∀ ns : List Int, RepL K H (ns.map D.int) (ns.map V.int)
  | [] => .nil
  | n :: ns => .cons (.int n) (repL_ints ns)
end

def RepO (K : PySem.W.Frag) (H : Hp) (a : Addr) : DO → Prop
  | .lst ds => ∃ vs, H a = some (.lst vs) ∧ vs.length ≤ sizeLine ∧ RepL K H ds vs
  | .dct w kvs => ∃ es, H a = some (DictO w a es) ∧ es.length ≤ sizeLine ∧ RepKV K H kvs es
  | .tab q => LamX.TabS H a q
  | .dk kvs => ∃ es, H a = some (.dK es) ∧ es.length ≤ sizeLine ∧ RepK K H kvs es
theorem tab_stay {H H' : Hp} {a : Addr} {q : Str} (h : LamX.TabS H a q) (e : H' a = H a) (g : Grow H H') : LamX.TabS H' a q := by
  obtain ⟨ps, h1, h2, h3⟩ := h
  refine ⟨ps, e.trans h1, h2, fun pos cv hc => ?_⟩
  obtain ⟨c, e1, e2⟩ := h3 pos cv hc
  exact ⟨c, e1, g.cods _ _ e2⟩
theorem RepO.stay {K : PySem.W.Frag} {H H' : Hp} {a : Addr} {o : DO} (h : RepO K H a o) (e : H' a = H a) (g : Grow H H') : RepO K H' a o := by
  cases o with
  | lst ds =>
    obtain ⟨vs, h1, z, l⟩ := h
    exact ⟨vs, e.trans h1, z, l.grow g⟩
  | dct w kvs =>
    obtain ⟨es, h1, z, l⟩ := h
    exact ⟨es, e.trans h1, z, l.grow g⟩
  | tab q => exact tab_stay h e g
  | dk kvs =>
    obtain ⟨es, h1, z, l⟩ := h
    exact ⟨es, e.trans h1, z, l.grow g⟩
/-- the mutable part is borne -/
def RM (K : PySem.W.Frag) (H : Hp) (M : DM) : Prop := ∀ a o, M a = some o → RepO K H a o
structure R (K : PySem.W.Frag) (m : DSt) (M : DM) (σ : SL) (H : Hp) : Prop where
  len : m.length = σ.length
  slot : ∀ (i : Nat) (d : D), m[i]? = some (some d) → ∃ v, σ[i]? = some (some v) ∧ Rep K H d v
  mem : RM K H M
section
variable {K : PySem.W.Frag} {H H' : Hp} {M N : DM} {m : DSt} {σ : SL} {a : Addr}
theorem RM.le (h : RM K H N) (l : MLe M N) : RM K H M := fun a o e => h a o (l a o e)
theorem RepO.some {o : DO} (h : RepO K H a o) : H a ≠ none := by
  cases o with
  | lst ds =>
    obtain ⟨vs, e, _, _⟩ := h
    rw [e]
    intro z
    cases z
  | dct w kvs =>
    obtain ⟨es, e, _⟩ := h
    rw [e]
    intro z
    cases z
  | tab q =>
    obtain ⟨ps, e, _⟩ := h
    rw [e]
    intro z
    cases z
  | dk kvs =>
    obtain ⟨es, e, _⟩ := h
    rw [e]
    intro z
    cases z
theorem RM.free (h : RM K H M) (e : H a = none) : M a = none := by
  cases q : M a with
  | none => rfl
  | some o => exact absurd e (h a o q).some
theorem RM.lst (h : RM K H M) {ds : List D} (e : M a = some (.lst ds)) : ∃ vs, H a = some (.lst vs) ∧ vs.length ≤ sizeLine ∧ RepL K H ds vs := h a _ e
theorem R.grow (r : R K m M σ H) (g : Grow H H') (h : RM K H' N) : R K m N σ H' :=
  ⟨r.len, fun i d e => let ⟨v, h1, h2⟩ := r.slot i d e; ⟨v, h1, h2.grow g⟩, h⟩
/-- an untracked thing has come -/
theorem RM.new {p : Addr} {o : HO} (h : RM K H M) (hp : H p = none) : RM K (upd H p o) M := fun a q e => by
  have ha := h a q e
  have ne : a ≠ p := fun z => ha.some (z ▸ hp)
  cases q with
  | lst ds =>
    exact ha.stay (upd_ne ne) (.new hp)
  | dct w kvs => exact ha.stay (upd_ne ne) (.new hp)
  | tab q => exact ha.stay (upd_ne ne) (.new hp)
  | dk kvs => exact ha.stay (upd_ne ne) (.new hp)
theorem RM.newLst {p : Addr} {ds : List D} {vs : List V} (h : RM K H M) (hp : H p = none) (hz : vs.length ≤ sizeLine) (l : RepL K H ds vs) : RM K (upd H p (.lst vs)) (mput M p (.lst ds)) := fun a q e => by
  by_cases ha : a = p
  · subst ha
    rw [mput_same] at e
    cases e
    exact ⟨vs, upd_same, hz, l.grow (.new hp)⟩
  · rw [mput_ne ha] at e
    exact h.new hp a q e
theorem RM.putLst {p : Addr} {ds : List D} {vs vs0 : List V} (h : RM K H M) (hp : H p = some (.lst vs0)) (hz : vs.length ≤ sizeLine) (l : RepL K H ds vs) : RM K (upd H p (.lst vs)) (mput M p (.lst ds)) := fun a q e => by
  by_cases ha : a = p
  · subst ha
    rw [mput_same] at e
    cases e
    exact ⟨vs, upd_same, hz, l.grow (.put hp)⟩
  · rw [mput_ne ha] at e
    have z := h a q e
    cases q with
    | lst es => exact z.stay (upd_ne ha) (.put hp)
    | dct w kvs => exact z.stay (upd_ne ha) (.put hp)
    | tab q => exact z.stay (upd_ne ha) (.put hp)
    | dk kvs => exact z.stay (upd_ne ha) (.put hp)
/-- a list is frozen: it leaves the mutable part -/
theorem RM.frz {p : Addr} {vs : List V} {o : Obj} (h : RM K H M) (hp : H p = some (.lst vs)) : RM K (upd H p (.frz o (.lst vs))) (mdel M p) := fun a q e => by
  have ha : a ≠ p := fun z => by
    subst z
    unfold mdel at e
    simp at e
  have e' : M a = some q := by
    unfold mdel at e
    rw [if_neg ha] at e
    exact e
  have z := h a q e'
  cases q with
  | lst es => exact z.stay (upd_ne ha) (.put hp)
  | dct w kvs => exact z.stay (upd_ne ha) (.put hp)
  | tab q => exact z.stay (upd_ne ha) (.put hp)
  | dk kvs => exact z.stay (upd_ne ha) (.put hp)
theorem R.set {i : Nat} {d : D} {v : V} (r : R K m M σ H) (h : Rep K H d v) : R K (m.set i (some d)) M (σ.set i (some v)) H := by
  refine ⟨by rw [List.length_set, List.length_set]; exact r.len, fun j e q => ?_, r.mem⟩
  by_cases hj : i = j
  · subst hj
    by_cases hi : i < m.length
    · rw [List.getElem?_set_self hi] at q
      cases q
      exact ⟨v, List.getElem?_set_self (by rw [← r.len]; exact hi), h⟩
    · rw [List.getElem?_eq_none (by rw [List.length_set]; omega)] at q
      cases q
  · rw [List.getElem?_set_ne hj] at q ⊢
    exact r.slot j e q
end

/-! ### the judgements -/
abbrev DVK := D → DM → Prop
abbrev DTE := DSt → DM → DVK → Prop
abbrev DTT := DSt → DM → (Bool → DM → Prop) → Prop
abbrev DTA := DSt → DM → (List D → DM → Prop) → Prop
structure DEnds where
  nx : DSt → DM → Prop
  rt : DVK
  bk : DSt → DM → Prop := fun _ _ => False
  ct : DSt → DM → Prop := fun _ _ => False
abbrev DTS := DEnds → DSt → DM → Prop
abbrev DR2 := D → D → DM → DVK → Prop
def upE (K : PySem.W.Frag) (t : DTE) : TE := fun σ H Q => ∃ m M Q', R K m M σ H ∧ t m M Q' ∧
  ∀ d v M' H', Grow H H' → Rep K H' d v → RM K H' M' → Q' d M' → Q v H'
def upT (K : PySem.W.Frag) (t : DTT) : TT := fun σ H Q => ∃ m M Q', R K m M σ H ∧ t m M Q' ∧
  ∀ b M' H', Grow H H' → RM K H' M' → Q' b M' → Q b H'
def upA (K : PySem.W.Frag) (t : DTA) : TA := fun σ H Q => ∃ m M Q', R K m M σ H ∧ t m M Q' ∧
  ∀ ds vs M' H', Grow H H' → RepL K H' ds vs → RM K H' M' → Q' ds M' → Q vs H'
structure EndsOk (K : PySem.W.Frag) (H : Hp) (D' : DEnds) (D : Ends) : Prop where
  nx : ∀ m M σ H', Grow H H' → R K m M σ H' → D'.nx m M → D.nx σ H'
  bk : ∀ m M σ H', Grow H H' → R K m M σ H' → D'.bk m M → D.bk σ H'
  ct : ∀ m M σ H', Grow H H' → R K m M σ H' → D'.ct m M → D.ct σ H'
  rt : ∀ d v M H', Grow H H' → Rep K H' d v → RM K H' M → D'.rt d M → D.rt v H'
def upS (K : PySem.W.Frag) (t : DTS) : TS := fun D σ H => ∃ m M D', R K m M σ H ∧ t D' m M ∧ EndsOk K H D' D
def upR2 (K : PySem.W.Frag) (r : DR2) : R2 := fun x y H Q => ∃ d e M Q', Rep K H d x ∧ Rep K H e y ∧ RM K H M ∧ r d e M Q' ∧
  ∀ z v M' H', Grow H H' → Rep K H' z v → RM K H' M' → Q' z M' → Q v H'
theorem EndsOk.grow {K : PySem.W.Frag} {H H' : Hp} {D' : DEnds} {D : Ends} (h : EndsOk K H D' D) (g : Grow H H') : EndsOk K H' D' D :=
  ⟨fun m M σ H2 g2 => h.nx m M σ H2 (g.trans g2), fun m M σ H2 g2 => h.bk m M σ H2 (g.trans g2),
   fun m M σ H2 g2 => h.ct m M σ H2 (g.trans g2), fun d v M H2 g2 => h.rt d v M H2 (g.trans g2)⟩
section
variable {X : Cx} {e a b c : Expr} {es : List Expr} {pos : Pos}
abbrev DE (X : Cx) (e : Expr) (t : DTE) : Prop := PE X e (upE X.K t)
abbrev DT (X : Cx) (e : Expr) (t : DTT) : Prop := PT X e (upT X.K t)
abbrev DA (X : Cx) (es : List Expr) (t : DTA) : Prop := PA X es (upA X.K t)
abbrev DS (X : Cx) (s : Stmt) (t : DTS) : Prop := PS X s (upS X.K t)
abbrev DSs (X : Cx) (s : List Stmt) (t : DTS) : Prop := PSs X s (upS X.K t)
abbrev DOp (X : Cx) (f : Value → Value → Sem Value) (r : DR2) : Prop := OpR X f (upR2 X.K r)
theorem imE {t t' : TE} (h : PE X e t) (i : ∀ σ H Q, t' σ H Q → t σ H Q) : PE X e t' := ⟨fun pins s σ H Q I q => h.run pins s σ H Q I (i σ H Q q)⟩
theorem imT {t t' : TT} (h : PT X e t) (i : ∀ σ H Q, t' σ H Q → t σ H Q) : PT X e t' := ⟨fun pins s σ H Q I q => h.run pins s σ H Q I (i σ H Q q)⟩
theorem imW {t t' : TT} (h : PW X e t) (i : ∀ σ H Q, t' σ H Q → t σ H Q) : PW X e t' := ⟨fun wh pins s σ H Q I q => h.run wh pins s σ H Q I (i σ H Q q)⟩
theorem imA {t t' : TA} (h : PA X es t) (i : ∀ σ H Q, t' σ H Q → t σ H Q) : PA X es t' := ⟨fun p pins s σ H Q I q => h.run p pins s σ H Q I (i σ H Q q)⟩
theorem imS {s : Stmt} {t t' : TS} (h : PS X s t) (i : ∀ D σ H, t' D σ H → t D σ H) : PS X s t' := ⟨fun pins s σ H D I q => h.run pins s σ H D I (i D σ H q)⟩
theorem imSs {s : List Stmt} {t t' : TS} (h : PSs X s t) (i : ∀ D σ H, t' D σ H → t D σ H) : PSs X s t' := ⟨fun pins s σ H D I q => h.run pins s σ H D I (i D σ H q)⟩

/-! ### names, constants -/
def dVar (i : Nat) : DTE := fun m M Q => ∃ d, m[i]? = some (some d) ∧ Q d M
def dC (d : D) : DTE := fun _ M Q => Q d M
theorem d_v (i : Nat) {x : Str} (hN : X.N[i]? = some x := by rfl)
    (hv : Vis X.env.scope x := by first | exact Or.inl rfl | exact Or.inr (Or.inl rfl) | exact Or.inr (Or.inr rfl))
    (hd : (x == ("__debug__" : Str)) = false := by decide) (hc : (x == ("__classdict__" : Str)) = false := by decide) : DE X (.Name x pos) (dVar i) :=
  imE (pe_var hN hv hd hc) fun σ H Q ⟨m, M, Q', r, ⟨d, hd, q⟩, k⟩ => by
    obtain ⟨v, hv, rp⟩ := r.slot i d hd
    exact ⟨v, hv, k d v M H (.refl H) rp r.mem q⟩
theorem d_c {v : V} {d : D} (h : PE X e (tC v)) (hr : ∀ K H, Rep K H d v) : DE X e (dC d) :=
  imE h fun σ H Q ⟨m, M, Q', r, q, k⟩ => k d v M H (.refl H) (hr _ _) r.mem q
theorem d_int {i : Int} {j : Nat} : DE X (.Constant (.int i) j pos) (dC (.int i)) := d_c pe_int fun _ _ => .int i
theorem d_bl {i : Bool} {j : Nat} : DE X (.Constant (.bool i) j pos) (dC (.bl i)) := d_c pe_bl fun _ _ => .bl i
theorem d_non {j : Nat} : DE X (.Constant .none j pos) (dC .non) := d_c pe_non fun _ _ => .non
theorem d_str {x : Str} {j : Nat} : DE X (.Constant (.str x) j pos) (dC (.str x)) := d_c pe_str fun _ _ => .str x

/-! ### operators -/
def dOp (r : DR2) (ta tb : DTE) : DTE := fun m M Q => ta m M fun x M1 => tb m M1 fun y M2 => r x y M2 Q
variable {ta tb tc : DTE} {r : DR2}
theorem up_op {σ : SL} {H : Hp} {Q : VK} (h : upE X.K (dOp r ta tb) σ H Q) : tOp (upR2 X.K r) (upE X.K ta) (upE X.K tb) σ H Q := by
  obtain ⟨m, M, Q', rr, q, k⟩ := h
  refine ⟨m, M, _, rr, q, fun d v M1 H1 g1 r1 m1 q1 => ?_⟩
  refine ⟨m, M1, _, rr.grow g1 m1, q1, fun d2 v2 M2 H2 g2 r2 m2 q2 => ?_⟩
  exact ⟨d, d2, M2, Q', r1.grow g2, r2, m2, q2, fun z v3 M3 H3 g3 => k z v3 M3 H3 ((g1.trans g2).trans g3)⟩
theorem d_op {op : Operator} (ho : DOp X (binaryOp op) r) (ha : DE X a ta) (hb : DE X b tb) : DE X (.BinOp a op b pos) (dOp r ta tb) :=
  imE (pe_op ho ha hb) fun σ H Q h => up_op (σ := σ) (H := H) (Q := Q) h
theorem d_cmp {op : CmpOp} (ho : DOp X (compareOp op) r) (ha : DE X a ta) (hb : DE X b tb) (hm : behindInMarks op b = false) : DE X (.Compare a [op] [b] pos) (dOp r ta tb) :=
  imE (pe_cmpR ho ha hb hm) fun σ H Q h => up_op (σ := σ) (H := H) (Q := Q) h
/-- two ints -/
def dI (C : Int → Int → Prop) (g : Int → Int → D) : DR2 := fun x y M Q => ∃ i j, x = .int i ∧ y = .int j ∧ C i j ∧ Q (g i j) M
theorem dop_I {f : Value → Value → Sem Value} {C : Int → Int → Prop} {g : Int → Int → V} {g' : Int → Int → D} (h : OpR X f (rI C g)) (hg : ∀ i j K H, Rep K H (g' i j) (g i j)) : DOp X f (dI C g') := by
  intro pins s σ H x y v u Q I rx ry q
  obtain ⟨d, e, M, Q', r1, r2, m, ⟨i, j, e1, e2, hc, q⟩, k⟩ := q
  subst e1
  subst e2
  cases r1
  cases r2
  exact h pins s σ H _ _ v u Q I rx ry ⟨i, j, rfl, rfl, hc, k _ _ M H (.refl H) (hg i j _ _) m q⟩
def dI0 (g : Int → Int → D) : DR2 := fun x y M Q => ∃ i j, x = .int i ∧ y = .int j ∧ Q (g i j) M
theorem dop_I0 {f : Value → Value → Sem Value} {g : Int → Int → V} {g' : Int → Int → D} (h : OpR X f (rI0 g)) (hg : ∀ i j K H, Rep K H (g' i j) (g i j)) : DOp X f (dI0 g') := by
  intro pins s σ H x y v u Q I rx ry q
  obtain ⟨d, e, M, Q', r1, r2, m, ⟨i, j, e1, e2, q⟩, k⟩ := q
  subst e1
  subst e2
  cases r1
  cases r2
  exact h pins s σ H _ _ v u Q I rx ry ⟨i, j, rfl, rfl, k _ _ M H (.refl H) (hg i j _ _) m q⟩
theorem DOp.or {f : Value → Value → Sem Value} {r r' : DR2} (h : DOp X f r) (h' : DOp X f r') : DOp X f (fun x y M Q => r x y M Q ∨ r' x y M Q) := by
  intro pins s σ H x y v u Q I rx ry q
  obtain ⟨d, e, M, Q', r1, r2, m, q | q, k⟩ := q
  · exact h pins s σ H _ _ v u Q I rx ry ⟨d, e, M, Q', r1, r2, m, q, k⟩
  · exact h' pins s σ H _ _ v u Q I rx ry ⟨d, e, M, Q', r1, r2, m, q, k⟩
abbrev dAddI : DR2 := dI0 fun i j => .int (i + j)
abbrev dSubI : DR2 := dI0 fun i j => .int (i - j)
/-- one side below 2^64, or both of known sizes -/
def CMulA (i j : Int) : Prop := (-18446744073709551616 < i ∧ i < 18446744073709551616) ∨ (-18446744073709551616 < j ∧ j < 18446744073709551616) ∨ CMulW i j
def CDivA (i j : Int) : Prop := (0 < j ∧ j < 1073741824) ∨ CDivW i j
def CPowA (i j : Int) : Prop := (0 ≤ j ∧ j ≤ 1000000) ∧ -9223372036854775808 < i ∧ i < 9223372036854775808
abbrev dMulI : DR2 := dI CMulA fun i j => .int (i * j)
abbrev dDivI : DR2 := dI CDivA fun i j => .int (i / j)
abbrev dModI : DR2 := dI (fun _ j => 0 < j) fun i j => .int (i % j)
abbrev dPowI : DR2 := dI CPowA fun i j => .int (i ^ j.toNat)
abbrev dLtI : DR2 := dI0 fun i j => .bl (decide (i < j))
abbrev dLeI : DR2 := dI0 fun i j => .bl (decide (i ≤ j))
abbrev dGtI : DR2 := dI0 fun i j => .bl (decide (j < i))
abbrev dGeI : DR2 := dI0 fun i j => .bl (decide (j ≤ i))
theorem o_add : DOp X (binaryOp .Add) dAddI := dop_I0 op_add fun _ _ _ _ => .int _
theorem o_sub : DOp X (binaryOp .Sub) dSubI := dop_I0 op_sub fun _ _ _ _ => .int _
theorem opr_or {f : Value → Value → Sem Value} {C C' C2 : Int → Int → Prop} {g : Int → Int → V} (h : OpR X f (rI C g)) (h' : OpR X f (rI C' g)) (hc : ∀ i j, C2 i j → C i j ∨ C' i j) : OpR X f (rI C2 g) := by
  intro pins s σ H x y v u Q I rx ry ⟨i, j, e1, e2, c, q⟩
  rcases hc i j c with c | c
  · exact h pins s σ H x y v u Q I rx ry ⟨i, j, e1, e2, c, q⟩
  · exact h' pins s σ H x y v u Q I rx ry ⟨i, j, e1, e2, c, q⟩
theorem o_mul : DOp X (binaryOp .Mult) dMulI := dop_I (opr_or op_mul op_mulW fun i j c => by
  rcases c with c | c | c
  · exact .inl (.inl ⟨by omega, by omega⟩)
  · exact .inl (.inr ⟨by omega, by omega⟩)
  · exact .inr c) fun _ _ _ _ => .int _
theorem o_div : DOp X (binaryOp .FloorDiv) dDivI := dop_I (opr_or op_fdiv op_fdivW fun _ _ c => c) fun _ _ _ _ => .int _
theorem o_mod : DOp X (binaryOp .Mod) dModI := dop_I op_mod fun _ _ _ _ => .int _
theorem o_pow : DOp X (binaryOp .Pow) dPowI := dop_I (opr_or op_pow op_pow fun i j c => .inl ⟨c.1.1, c.1.2, by have := c.2; omega⟩) fun _ _ _ _ => .int _
theorem o_lt : DOp X (compareOp .Lt) dLtI := dop_I0 op_lt fun _ _ _ _ => .bl _
theorem o_le : DOp X (compareOp .LtE) dLeI := dop_I0 op_le fun _ _ _ _ => .bl _
theorem o_gt : DOp X (compareOp .Gt) dGtI := dop_I0 op_gt fun _ _ _ _ => .bl _
theorem o_ge : DOp X (compareOp .GtE) dGeI := dop_I0 op_ge fun _ _ _ _ => .bl _
end
end DL
namespace DL
open PySem PySem.Spec PyProof.Rows L2
section
variable {X : Cx} {e a b c : Expr} {es : List Expr} {pos : Pos} {te ta tb tc : DTE} {t : DTA}

/-! ### argument lists, displays -/
def dNil : DTA := fun _ M Q => Q [] M
def dCons (te : DTE) (tr : DTA) : DTA := fun m M Q => te m M fun d M1 => tr m M1 fun ds M2 => Q (d :: ds) M2
theorem da_nil : DA X [] dNil := imA pa_nil fun σ H Q ⟨m, M, Q', r, q, k⟩ => k [] [] M H (.refl H) .nil r.mem q
theorem da_cons (ha : DE X e te) (hr : DA X es t) (hs : starEach (e :: es) X.env = (false, eval e X.env) :: starEach es X.env := by rfl) : DA X (e :: es) (dCons te t) :=
  imA (pa_cons ha hr hs) fun σ H Q ⟨m, M, Q', r, q, k⟩ => by
    refine ⟨m, M, _, r, q, fun d v M1 H1 g1 r1 m1 q1 => ?_⟩
    refine ⟨m, M1, _, r.grow g1 m1, q1, fun ds vs M2 H2 g2 r2 m2 q2 => ?_⟩
    exact k _ _ M2 H2 (g1.trans g2) (.cons (r1.grow g2) r2) m2 q2
def dTup (t : DTA) : DTE := fun m M Q => t m M fun ds M1 => ds.length ≤ sizeLine ∧ Q (.tup ds) M1
/-- a list that will be changed -/
def dLst (t : DTA) : DTE := fun m M Q => t m M fun ds M1 => ds.length ≤ sizeLine ∧ ∀ p, M1 p = none → Q (.ref p) (mput M1 p (.lst ds))
/-- a list that stays as it is -/
def dLstF (t : DTA) : DTE := fun m M Q => t m M fun ds M1 => ds.length ≤ sizeLine ∧ Q (.lst ds) M1
theorem d_tup {x1} (h : DA X es t) : DE X (.Tuple es x1 pos) (dTup t) :=
  imE (pe_tup h) fun σ H Q ⟨m, M, Q', r, q, k⟩ => by
    refine ⟨m, M, _, r, q, fun ds vs M1 H1 g1 r1 m1 ⟨z, q1⟩ => ⟨by rw [← r1.length]; exact z, fun p np => ?_⟩⟩
    exact k _ _ M1 _ (g1.trans (.new np)) (.tup (.of upd_same) (by rw [← r1.length]; exact z) (r1.grow (.new np))) (m1.new np) q1
theorem d_lst (h : DA X es t) : DE X (.List es pos) (dLst t) :=
  imE (pe_lst h) fun σ H Q ⟨m, M, Q', r, q, k⟩ => by
    refine ⟨m, M, _, r, q, fun ds vs M1 H1 g1 r1 m1 ⟨z, q1⟩ => ⟨by rw [← r1.length]; exact z, fun p np => ?_⟩⟩
    exact k _ _ _ _ (g1.trans (.new np)) (.ref p) (m1.newLst np (by rw [← r1.length]; exact z) r1) (q1 p (m1.free np))

/-! ### a list is frozen -/
theorem inv_frz {pins : List (Addr × Obj)} {σ : SL} {H : Hp} {s : Shared} {p : Addr} {vs : List V} (I : Inv X pins σ H s) (h : H p = some (.lst vs)) : ∃ o, Inv X pins σ (upd H p (.frz o (.lst vs))) s := by
  obtain ⟨z, its, n, rv, ho⟩ := I.hok p _ h
  have nt : ∀ b o, H b = some o → (∀ ws, o ≠ .lst ws) → b ≠ p := fun b o e d => ne_of e h (d vs)
  refine ⟨{ cls := Value.type "list", data := Data.seq its.toArray n }, I.step (H' := upd H p (.frz { cls := Value.type "list", data := Data.seq its.toArray n } (.lst vs))) (g' := s.gens) (t' := s.toks) (d' := s.drawn) (h' := s.heap) (ch := []) (fun _ y => nomatch y) (fun _ _ _ _ _ q _ => q) (fun _ q _ _ _ y _ => ⟨q.slots, y⟩) (fun b _ _ _ n => ?_)
    (fun _ q _ y => ⟨q, y⟩) (fun b ws y => ?_) (fun b q u y => ?_) (fun b q y => ⟨#[], ?_⟩) (fun _ y => y) (fun b q y => ?_) I.bare⟩
  · rw [upd_ne (fun w => by rw [w, h] at n; cases n)]
    exact n
  · rw [upd_ne (nt b _ y fun _ w => nomatch w)]
    exact y
  · rw [upd_ne (nt b _ y fun _ w => nomatch w)]
    exact y
  · rw [upd_ne (nt b _ y fun _ w => nomatch w), y]
    simp
  · by_cases e : b = p
    · subst e
      rw [upd_same] at y
      cases y
      exact ⟨ho, z, its, n, rv, ho⟩
    · rw [upd_ne e] at y
      refine (I.hok b q y).stay (fun _ _ _ w => w) (fun c w => ?_) fun c ws w => ?_
      · rw [upd_ne (nt c _ w fun _ w => nomatch w)]
        exact w
      · rw [upd_ne (nt c _ w fun _ w => nomatch w)]
        exact w
def tFz (t : TE) : TE := fun σ H Q => t σ H fun v H1 => ∃ p vs, v = .ref p ∧ H1 p = some (.lst vs) ∧ ∀ o, Q v (upd H1 p (.frz o (.lst vs)))
theorem pe_fz {t : TE} (h : PE X e t) : PE X e (tFz t) := by
  refine ⟨fun pins s σ H Q I q => thn (h.run pins s σ H _ I q) fun u s1 ⟨v, H1, I1, r1, p, vs, e1, e2, q1⟩ => ?_⟩
  obtain ⟨o, I2⟩ := inv_frz I1 e2
  exact ⟨v, _, I2, r1, q1 o⟩
/-- the list that comes is frozen: it leaves the mutable part -/
def dFz (t : DTE) : DTE := fun m M Q => t m M fun d M1 => ∃ p ds, d = .ref p ∧ M1 p = some (.lst ds) ∧ Q (.lst ds) (mdel M1 p)
theorem d_fz (h : DE X e te) : DE X e (dFz te) :=
  imE (pe_fz h) fun σ H Q ⟨m, M, Q', r, q, k⟩ => by
    refine ⟨m, M, _, r, q, fun d v M1 H1 g1 r1 m1 ⟨p, ds, e1, e2, q1⟩ => ?_⟩
    subst e1
    cases r1
    obtain ⟨vs, h1, z, l⟩ := m1.lst e2
    refine ⟨p, vs, rfl, h1, fun o => k _ _ _ _ (g1.trans (.put h1)) (.lst (.inl ⟨o, upd_same⟩) z (l.grow (.put h1))) (m1.frz h1) q1⟩
theorem d_lstF (h : DA X es t) : DE X (.List es pos) (dLstF t) :=
  imE (pe_fz (pe_lst h)) fun σ H Q ⟨m, M, Q', r, q, k⟩ => by
    refine ⟨m, M, _, r, q, fun ds vs M1 H1 g1 r1 m1 ⟨z, q1⟩ => ⟨by rw [← r1.length]; exact z, fun p np => ⟨p, vs, rfl, upd_same, fun o => ?_⟩⟩⟩
    rw [upd_upd]
    exact k _ _ _ _ (g1.trans (.new np)) (.lst (.inl ⟨o, upd_same⟩) (by rw [← r1.length]; exact z) (r1.grow (.new np))) (m1.new np) q1

/-! ### tests -/
def dTst (t : DTE) : DTT := fun m M Q => t m M fun d M1 => ∃ k, d = .bl k ∧ Q k M1
theorem up_tst {σ : SL} {H : Hp} {Q : Bool → Hp → Prop} (h : upT X.K (dTst te) σ H Q) : tTest (upE X.K te) σ H Q := by
  obtain ⟨m, M, Q', r, q, k⟩ := h
  refine ⟨m, M, _, r, q, fun d v M1 H1 g1 r1 m1 ⟨y, e1, q1⟩ => ?_⟩
  subst e1
  cases r1
  exact ⟨y, rfl, k y M1 H1 g1 m1 q1⟩
theorem dt_cmp {op : CmpOp} {r : DR2} (ho : DOp X (compareOp op) r) (ha : DE X a ta) (hb : DE X b tb) (hm : behindInMarks op b = false) : DT X (.Compare a [op] [b] pos) (dTst (dOp r ta tb)) :=
  imT (pt_cmpR ho ha hb hm) fun σ H Q h => by
    obtain ⟨m, M, Q', r, q, k⟩ := h
    refine up_op (σ := σ) (H := H) ⟨m, M, _, r, q, fun d v M1 H1 g1 r1 m1 ⟨y, e1, q1⟩ => ?_⟩
    subst e1
    cases r1
    exact ⟨y, rfl, k y M1 H1 g1 m1 q1⟩
theorem dt_val (h : DE X e te) (he : ∀ whole, isTrue e X.env whole = (do let v ← whole; standAt e.pos; holding [v] (truthy v)) := by intro _; rfl) : DT X e (dTst te) :=
  imT (pt_val h he) fun σ H Q h => up_tst (σ := σ) (H := H) (Q := Q) h
variable {pa pb : DTT} {rest : List Expr}
abbrev DW (X : Cx) (e : Expr) (t : DTT) : Prop := PW X e (upT X.K t)
def dAnd (t u : DTT) : DTT := fun m M Q => t m M fun k M1 => if k = true then u m M1 Q else Q false M1
def dOr (t u : DTT) : DTT := fun m M Q => t m M fun k M1 => if k = true then Q true M1 else u m M1 Q
def dNot (t : DTT) : DTT := fun m M Q => t m M fun k M1 => Q (!k) M1
theorem dw_and1 (ha : DT X a pa) : DW X (.BoolOp .And [a] pos) pa := pw_and1 ha
theorem dw_or1 (ha : DT X a pa) : DW X (.BoolOp .Or [a] pos) pa := pw_or1 ha
theorem dw_and (ha : DT X a pa) (hb : DW X (.BoolOp .And (b :: rest) pos) pb) : DW X (.BoolOp .And (a :: b :: rest) pos) (dAnd pa pb) :=
  imW (pw_and ha hb) fun σ H Q ⟨m, M, Q', r, q, k⟩ => by
    refine ⟨m, M, _, r, q, fun y M1 H1 g1 m1 q1 => ?_⟩
    cases y with
    | true => exact ⟨m, M1, Q', r.grow g1 m1, q1, fun z M2 H2 g2 => k z M2 H2 (g1.trans g2)⟩
    | false => exact k _ M1 H1 g1 m1 q1
theorem dw_or (ha : DT X a pa) (hb : DW X (.BoolOp .Or (b :: rest) pos) pb) : DW X (.BoolOp .Or (a :: b :: rest) pos) (dOr pa pb) :=
  imW (pw_or ha hb) fun σ H Q ⟨m, M, Q', r, q, k⟩ => by
    refine ⟨m, M, _, r, q, fun y M1 H1 g1 m1 q1 => ?_⟩
    cases y with
    | false => exact ⟨m, M1, Q', r.grow g1 m1, q1, fun z M2 H2 g2 => k z M2 H2 (g1.trans g2)⟩
    | true => exact k _ M1 H1 g1 m1 q1
theorem dt_w (h : DW X e pa) : DT X e pa := PW.pt h
theorem dt_not (ha : DT X a pa) : DT X (.UnaryOp .Not a pos) (dNot pa) :=
  imT (pt_not ha) fun σ H Q ⟨m, M, Q', r, q, k⟩ => ⟨m, M, _, r, q, fun y M1 H1 g1 m1 q1 => k _ M1 H1 g1 m1 q1⟩
/-- .. as values -/
def dAndV (t u : DTE) : DTE := fun m M Q => t m M fun d M1 => ∃ k, d = .bl k ∧ if k = true then u m M1 Q else Q (.bl false) M1
def dOrV (t u : DTE) : DTE := fun m M Q => t m M fun d M1 => ∃ k, d = .bl k ∧ if k = true then Q (.bl true) M1 else u m M1 Q
def dNotV (t : DTE) : DTE := fun m M Q => t m M fun d M1 => ∃ k, d = .bl k ∧ Q (.bl (!k)) M1
theorem d_one {op : BoolOp} (h : DE X a ta) : DE X (.BoolOp op [a] pos) ta := pe_one h
theorem d_and (ha : DE X a ta) (hb : DE X (.BoolOp .And (b :: rest) pos) tb) : DE X (.BoolOp .And (a :: b :: rest) pos) (dAndV ta tb) :=
  imE (pe_and ha hb) fun σ H Q ⟨m, M, Q', r, q, k⟩ => by
    refine ⟨m, M, _, r, q, fun d v M1 H1 g1 r1 m1 ⟨y, e1, q1⟩ => ?_⟩
    subst e1
    cases r1
    refine ⟨y, rfl, ?_⟩
    cases y with
    | true => exact ⟨m, M1, Q', r.grow g1 m1, q1, fun z w M2 H2 g2 => k z w M2 H2 (g1.trans g2)⟩
    | false => exact k _ _ M1 H1 g1 (.bl _) m1 q1
theorem d_or (ha : DE X a ta) (hb : DE X (.BoolOp .Or (b :: rest) pos) tb) : DE X (.BoolOp .Or (a :: b :: rest) pos) (dOrV ta tb) :=
  imE (pe_or ha hb) fun σ H Q ⟨m, M, Q', r, q, k⟩ => by
    refine ⟨m, M, _, r, q, fun d v M1 H1 g1 r1 m1 ⟨y, e1, q1⟩ => ?_⟩
    subst e1
    cases r1
    refine ⟨y, rfl, ?_⟩
    cases y with
    | false => exact ⟨m, M1, Q', r.grow g1 m1, q1, fun z w M2 H2 g2 => k z w M2 H2 (g1.trans g2)⟩
    | true => exact k _ _ M1 H1 g1 (.bl _) m1 q1
theorem d_not (ha : DE X a ta) : DE X (.UnaryOp .Not a pos) (dNotV ta) :=
  imE (pe_not ha) fun σ H Q ⟨m, M, Q', r, q, k⟩ => by
    refine ⟨m, M, _, r, q, fun d v M1 H1 g1 r1 m1 ⟨y, e1, q1⟩ => ?_⟩
    subst e1
    cases r1
    exact ⟨y, rfl, k _ _ M1 H1 g1 (.bl _) m1 q1⟩
def dIfE (t : DTT) (u v : DTE) : DTE := fun m M Q => t m M fun k M1 => if k = true then u m M1 Q else v m M1 Q
theorem d_ifE (hc : DT X c pa) (ha : DE X a ta) (hb : DE X b tb) : DE X (.IfExp c a b pos) (dIfE pa ta tb) :=
  imE (pe_ifExp hc ha hb) fun σ H Q ⟨m, M, Q', r, q, k⟩ => by
    refine ⟨m, M, _, r, q, fun y M1 H1 g1 m1 q1 => ?_⟩
    cases y with
    | true => exact ⟨m, M1, Q', r.grow g1 m1, q1, fun z w M2 H2 g2 => k z w M2 H2 (g1.trans g2)⟩
    | false => exact ⟨m, M1, Q', r.grow g1 m1, q1, fun z w M2 H2 g2 => k z w M2 H2 (g1.trans g2)⟩
end

/-! ### statements -/
section
variable {X : Cx} {e : Expr} {pos : Pos} {st : Stmt} {rest : List Stmt} {t u : DTS} {te : DTE}
def dNext : DTS := fun D m M => D.nx m M
def dSeq (t u : DTS) : DTS := fun D m M => t { D with nx := u D } m M
theorem ds_nil : DSs X [] dNext := imSs pss_nil fun D σ H ⟨m, M, D', r, q, k⟩ => k.nx m M σ H (.refl H) r q
theorem ds_cons (h1 : DS X st t) (h2 : DSs X rest u) : DSs X (st :: rest) (dSeq t u) :=
  imSs (pss_cons h1 h2) fun D σ H ⟨m, M, D', r, q, k⟩ => by
    refine ⟨m, M, { D' with nx := u D' }, r, q, ⟨fun m1 M1 σ1 H1 g1 r1 q1 => ?_, k.bk, k.ct, k.rt⟩⟩
    exact ⟨m1, M1, D', r1, q1, k.grow g1⟩
theorem ds_one (h1 : DS X st t) : DSs X [st] t := pss_one h1
def dBreak : DTS := fun D m M => D.bk m M
def dCont : DTS := fun D m M => D.ct m M
theorem ds_pass : DS X (.Pass pos) dNext := imS ps_pass fun D σ H ⟨m, M, D', r, q, k⟩ => k.nx m M σ H (.refl H) r q
theorem ds_break : DS X (.Break pos) dBreak := imS ps_break fun D σ H ⟨m, M, D', r, q, k⟩ => k.bk m M σ H (.refl H) r q
theorem ds_cont : DS X (.Continue pos) dCont := imS ps_continue fun D σ H ⟨m, M, D', r, q, k⟩ => k.ct m M σ H (.refl H) r q
def dDrop (te : DTE) : DTS := fun D m M => te m M fun _ M1 => D.nx m M1
theorem ds_expr (he : DE X e te) (hs : swapsWith e none pos.line X.env = pure false := by rfl) : DS X (.Expr e pos) (dDrop te) :=
  imS (ps_expr he hs) fun D σ H ⟨m, M, D', r, q, k⟩ => ⟨m, M, _, r, q, fun d v M1 H1 g1 r1 m1 q1 => k.nx m M1 σ H1 g1 (r.grow g1 m1) q1⟩
def dRet (te : DTE) : DTS := fun D m M => te m M D.rt
theorem ds_ret (he : DE X e te) : DS X (.Return (some e) pos) (dRet te) :=
  imS (ps_ret he) fun D σ H ⟨m, M, D', r, q, k⟩ => ⟨m, M, _, r, q, fun d v M1 H1 g1 r1 m1 q1 => k.rt d v M1 H1 g1 r1 m1 q1⟩
def dRetN : DTS := fun D _ M => D.rt .non M
theorem ds_retN : DS X (.Return none pos) dRetN :=
  imS ps_retN fun D σ H ⟨m, M, D', r, q, k⟩ => k.rt _ _ M H (.refl H) .non r.mem q
def dIf (p : DTT) (t u : DTS) : DTS := fun D m M => p m M fun k M1 => if k = true then t D m M1 else u D m M1
theorem ds_if {c : Expr} {x y : List Stmt} {p : DTT} (hc : DT X c p) (ha : DSs X x t) (hb : DSs X y u) : DS X (.If c x y pos) (dIf p t u) :=
  imS (ps_if hc ha hb) fun D σ H ⟨m, M, D', r, q, k⟩ => by
    refine ⟨m, M, _, r, q, fun z M1 H1 g1 m1 q1 => ?_⟩
    cases z with
    | true => exact ⟨m, M1, D', r.grow g1 m1, q1, k.grow g1⟩
    | false => exact ⟨m, M1, D', r.grow g1 m1, q1, k.grow g1⟩
def dNever : DTS := fun _ _ _ => False
theorem ds_never : DS X st dNever := ⟨fun _ _ _ _ _ _ ⟨_, _, _, _, q, _⟩ => q.elim⟩
theorem dss_never {sts : List Stmt} : DSs X sts dNever := ⟨fun _ _ _ _ _ _ ⟨_, _, _, _, q, _⟩ => q.elim⟩
/-- slot i's list is frozen ahead of a statement -/
def dFzS (i : Nat) (t : DTS) : DTS := fun D m M => ∃ p ds, m[i]? = some (some (.ref p)) ∧ M p = some (.lst ds) ∧ t D (m.set i (some (.lst ds))) (mdel M p)
theorem ds_fz (i : Nat) (h : DS X st t) : DS X st (dFzS i t) := by
  refine ⟨fun pins s σ H D I ⟨m, M, D', r, ⟨p, ds, e1, e2, q⟩, k⟩ => ?_⟩
  obtain ⟨v, h1, h2⟩ := r.slot i _ e1
  cases h2
  obtain ⟨vs, h3, z, l⟩ := r.mem.lst e2
  obtain ⟨o, I2⟩ := inv_frz I h3
  refine h.run pins s σ _ D I2 ⟨_, _, D', ?_, q, k.grow (.put h3)⟩
  have hi : i < m.length := (List.getElem?_eq_some_iff.mp e1).1
  refine ⟨by rw [List.length_set]; exact r.len, fun j d q1 => ?_, r.mem.frz h3⟩
  by_cases hj : i = j
  · subst hj
    rw [List.getElem?_set_self hi] at q1
    cases q1
    exact ⟨_, h1, .lst (.inl ⟨o, upd_same⟩) z (l.grow (.put h3))⟩
  · rw [List.getElem?_set_ne hj] at q1
    obtain ⟨w, h5, h6⟩ := r.slot j d q1
    exact ⟨w, h5, h6.grow (.put h3)⟩

/-! ### targets: ws are the slots that are written -/
abbrev DTG := D → DSt → DM → (DSt → DM → Prop) → Prop
abbrev DTGs := List D → DSt → DM → (DSt → DM → Prop) → Prop
def Off (ws : List Nat) (σ σ' : SL) : Prop := σ'.length = σ.length ∧ ∀ i, i ∉ ws → σ'[i]? = σ[i]?
def upG (K : PySem.W.Frag) (ws : List Nat) (t : DTG) : TG := fun v σ H Q => ∃ d m M Q', Rep K H d v ∧ R K m M σ H ∧ t d m M Q' ∧
  ∀ m' M' σ' H', Grow H H' → R K m' M' σ' H' → Off ws σ σ' → Q' m' M' → Q σ' H'
def upGs (K : PySem.W.Frag) (ws : List Nat) (t : DTGs) : TGs := fun vs σ H Q => ∃ ds m M Q', RepL K H ds vs ∧ R K m M σ H ∧ t ds m M Q' ∧
  ∀ m' M' σ' H', Grow H H' → R K m' M' σ' H' → Off ws σ σ' → Q' m' M' → Q σ' H'
abbrev DG (X : Cx) (ws : List Nat) (tg : Expr) (t : DTG) : Prop := PG X tg (upG X.K ws t)
abbrev DGs (X : Cx) (ws : List Nat) (tgs : List Expr) (t : DTGs) : Prop := PGs X tgs (upGs X.K ws t)
theorem imG {tg : Expr} {t t' : TG} (h : PG X tg t) (i : ∀ v σ H Q, t' v σ H Q → t v σ H Q) : PG X tg t' := ⟨fun pins s σ H v u Q I r q => h.run pins s σ H v u Q I r (i v σ H Q q)⟩
theorem imGs {tg : List Expr} {t t' : TGs} (h : PGs X tg t) (i : ∀ v σ H Q, t' v σ H Q → t v σ H Q) : PGs X tg t' := ⟨fun pins s σ H v u Q I r q => h.run pins s σ H v u Q I r (i v σ H Q q)⟩
def dgName (i : Nat) : DTG := fun d m M Q => Q (m.set i (some d)) M
theorem Off.refl (ws : List Nat) (σ : SL) : Off ws σ σ := ⟨rfl, fun _ _ => rfl⟩
theorem Off.set {i : Nat} {σ : SL} {v : V} : Off [i] σ (σ.set i (some v)) := ⟨List.length_set, fun j h => by
  have : i ≠ j := fun z => h (by simp [z])
  exact List.getElem?_set_ne this⟩
theorem Off.trans {ws us : List Nat} {σ σ1 σ2 : SL} (h : Off ws σ σ1) (k : Off us σ1 σ2) : Off (ws ++ us) σ σ2 :=
  ⟨k.1.trans h.1, fun i hi => (k.2 i fun z => hi (List.mem_append_right _ z)).trans (h.2 i fun z => hi (List.mem_append_left _ z))⟩
theorem dg_name {i : Nat} {x : Str} (hN : X.N.Nodup) (hi : X.N[i]? = some x) (hx : Loc X.env.scope x) (hf : X.fn x = true ∨ X.env.scope.names.lookup x = some .local := by first | exact .inl rfl | exact .inr rfl | assumption) :
    DG X [i] (.Name x pos) (dgName i) :=
  imG (pg_name hN hi hx hf) fun v σ H Q ⟨d, m, M, Q', rd, r, q, k⟩ => k _ _ _ H (.refl H) (r.set rd) .set q
def dgNil : DTGs := fun ds m M Q => ds = [] ∧ Q m M
def dgCons (t : DTG) (u : DTGs) : DTGs := fun ds m M Q => ∃ d r, ds = d :: r ∧ t d m M fun m1 M1 => u r m1 M1 Q
theorem dgs_nil : DGs X [] [] dgNil := imGs pgs_nil fun v σ H Q ⟨ds, m, M, Q', rd, r, ⟨e, q⟩, k⟩ => by
  subst e
  cases rd
  exact ⟨rfl, k _ _ _ H (.refl H) r (.refl _ _) q⟩
theorem dgs_cons {es : List Expr} {ws us : List Nat} {t : DTG} {u : DTGs} (h1 : DG X ws e t) (h2 : DGs X us es u)
    (hs : (assignEach (e :: es) X.env).map (·.2) = assign e X.env :: (assignEach es X.env).map (·.2) := by rfl) : DGs X (ws ++ us) (e :: es) (dgCons t u) :=
  imGs (pgs_cons h1 h2 hs) fun v σ H Q ⟨ds, m, M, Q', rd, r, ⟨d, dr, e, q⟩, k⟩ => by
    subst e
    cases rd with
    | cons r1 rl =>
      refine ⟨_, _, rfl, _, m, M, _, r1, r, q, fun m1 M1 σ1 H1 g1 rr o1 q1 => ?_⟩
      exact ⟨_, m1, M1, _, rl.grow g1, rr, q1, fun m2 M2 σ2 H2 g2 r2 o2 q2 => k m2 M2 σ2 H2 (g1.trans g2) r2 (o1.trans o2) q2⟩
def dgTup (n : Nat) (t : DTGs) : DTG := fun d m M Q => ∃ ds, d = .tup ds ∧ ds.length = n ∧ t ds m M Q
theorem dg_tup {es : List Expr} {k n : Nat} {ws : List Nat} {t : DTGs} (hc : X.calm = true) (h : DGs X ws es t)
    (hn : (assignEach es X.env).length = n := by rfl) (hst : (assignEach es X.env).findIdx? (·.1) = none := by rfl) : DG X ws (.Tuple es k pos) (dgTup n t) :=
  imG (pg_tup hc h hn hst) fun v σ H Q ⟨d, m, M, Q', rd, r, ⟨ds, e, hl, q⟩, k⟩ => by
    subst e
    cases rd with
    | tup hs _ hl2 => exact ⟨_, _, rfl, hs, by rw [← hl2.length]; exact hl, ds, m, M, Q', hl2, r, q, k⟩
def dAsg (te : DTE) (g : DTG) : DTS := fun D m M => te m M fun d M1 => g d m M1 D.nx
theorem ds_asg {tg : Expr} {ws : List Nat} {g : DTG} (he : DE X e te) (hg : DG X ws tg g) (hs : swapsWithSole [tg] e pos.line X.env = pure false := by rfl) (hw : swappedStores [tg] e X.env = pure none := by rfl)
    (h1 : (assignEach [tg] X.env).map (·.2) = [assign tg X.env] := by rfl) : DS X (.Assign [tg] e pos) (dAsg te g) :=
  imS (ps_asg he hg hs hw h1) fun D σ H ⟨m, M, D', r, q, k⟩ => by
    refine ⟨m, M, _, r, q, fun d v M1 H1 g1 r1 m1 q1 => ?_⟩
    exact ⟨d, m, M1, _, r1, r.grow g1 m1, q1, fun m2 M2 σ2 H2 g2 r2 _ q2 => k.nx m2 M2 σ2 H2 (g1.trans g2) r2 q2⟩
def dSet (i : Nat) (te : DTE) : DTS := fun D m M => te m M fun d M1 => D.nx (m.set i (some d)) M1
theorem ds_set {i : Nat} {x : Str} {pos' : Pos} (hN : X.N.Nodup) (hi : X.N[i]? = some x) (hx : Loc X.env.scope x) (he : DE X e te) (hs : swapsWith e (some (.Name x pos')) pos.line X.env = pure false := by rfl)
    (hf : X.fn x = true ∨ X.env.scope.names.lookup x = some .local := by first | exact .inl rfl | exact .inr rfl | assumption) : DS X (.Assign [.Name x pos'] e pos) (dSet i te) :=
  imS (ps_set hN hi hx he hs hf) fun D σ H ⟨m, M, D', r, q, k⟩ =>
    ⟨m, M, _, r, q, fun d v M1 H1 g1 r1 m1 q1 => k.nx _ M1 _ H1 g1 ((r.grow g1 m1).set r1) q1⟩
end

/-! ### what is walked -/
abbrev Src := List D × Option Addr
abbrev DTI := DSt → DM → (Src → DM → Prop) → Prop
def SrcOk (K : PySem.W.Frag) (src : Src) (H0 H : Hp) : Prop := Grow H0 H ∧ ∀ a, src.2 = some a → ∃ vs, H a = some (.lst vs) ∧ RepL K H src.1 vs
structure Stream (K : PySem.W.Frag) (J : It) (src : Src) (H0 : Hp) : Prop where
  small : src.1.length ≤ sizeLine
  go : ∀ i H, SrcOk K src H0 H → i < src.1.length → J.go i H
  yld : ∀ i H x H', SrcOk K src H0 H → i < src.1.length → J.yld i H x H' → Grow H H' ∧ (∀ M, RM K H M → RM K H' M) ∧ ∃ d, src.1[i]? = some d ∧ Rep K H' d x
  stop : ∀ H, SrcOk K src H0 H → J.stop src.1.length H
def upI (K : PySem.W.Frag) (t : DTI) : TI := fun σ H Rr => ∃ m M Q', R K m M σ H ∧ t m M Q' ∧
  ∀ src M' H' J, Grow H H' → RM K H' M' → Q' src M' → Stream K J src H' → Rr J H'
abbrev DI (X : Cx) (tg iter : Expr) (t : DTI) : Prop := PI X tg iter (upI X.K t)
theorem imI {X : Cx} {tg iter : Expr} {t t' : TI} (h : PI X tg iter t) (i : ∀ σ H Q, t' σ H Q → t σ H Q) : PI X tg iter t' := ⟨fun pins s σ H Q I q => h.run pins s σ H Q I (i σ H Q q)⟩
/-- the walked list is as it was -/
def SrcV (src : Src) (M : DM) : Prop := ∀ a, src.2 = some a → M a = some (.lst src.1)
theorem SrcV.ok {K : PySem.W.Frag} {src : Src} {H0 H : Hp} {M : DM} (h : SrcV src M) (g : Grow H0 H) (r : RM K H M) : SrcOk K src H0 H :=
  ⟨g, fun a e => let ⟨vs, h1, _, h2⟩ := r.lst (h a e); ⟨vs, h1, h2⟩⟩
/-- something is forgotten of the mutable part -/
def fg (P : DSt → DM → Prop) : DSt → DM → Prop := fun m M => ∃ M0, MLe M0 M ∧ P m M0
theorem fg_of {P : DSt → DM → Prop} {m : DSt} {M : DM} (h : P m M) : fg P m M := ⟨M, .refl M, h⟩
def dForGo (src : Src) (g : DTG) (tb : DTS) (Z : DEnds) : List D → DSt → DM → Prop
  | [], m, M => SrcV src M ∧ Z.nx m M
  | d :: ds, m, M => SrcV src M ∧ g d m M fun m1 M1 => tb { Z with nx := fg (dForGo src g tb Z ds), ct := fg (dForGo src g tb Z ds), bk := Z.nx } m1 M1
def dFor (t : DTI) (g : DTG) (tb : DTS) : DTS := fun D m M => t m M fun src M1 => src.1.length ≤ sizeLine → dForGo src g tb D src.1 m M1
section
variable {X : Cx} {tg iter : Expr} {pos : Pos} {t : DTI} {g : DTG} {tb : DTS} {ws : List Nat}
theorem R.le {K : PySem.W.Frag} {m : DSt} {M M0 : DM} {σ : SL} {H : Hp} (r : R K m M σ H) (l : MLe M0 M) : R K m M0 σ H := ⟨r.len, r.slot, r.mem.le l⟩
theorem ds_for {body : List Stmt} (hp : PassesOwn (model X.prog X.w) X.A X.env X.xe) (hc : X.calm = true) (hi : DI X tg iter t) (hg : DG X ws tg g) (hb : DSs X body tb)
    (hs : ∀ x, foldedSetIterable iter X.env x = pure x := by intro _; rfl) : DS X (.For tg iter body [] pos) (dFor t g tb) :=
  imS (ps_for hp hc hi hg hb hs) fun D σ H ⟨m, M, D', r, q, k⟩ => by
    refine ⟨m, M, _, r, q, fun src M1 H1 J g1 m1 q1 st => ?_⟩
    refine ⟨fun i n σ H2 => i + n = src.1.length ∧ Grow H1 H2 ∧ ∃ m M, R X.K m M σ H2 ∧ dForGo src g tb D' (src.1.drop i) m M, ⟨src.1.length, by omega, .refl _, m, M1, r.grow g1 m1, q1 st.small⟩, ?_⟩
    rintro i n σ2 H2 ⟨hl, g2, m2, M2, r2, q2⟩
    by_cases hlt : i < src.1.length
    · have hd : src.1.drop i = src.1[i] :: src.1.drop (i + 1) := List.drop_eq_getElem_cons hlt
      rw [hd] at q2
      obtain ⟨sv, q2⟩ := q2
      have so := sv.ok g2 r2.mem
      refine .inr ⟨st.go i H2 so hlt, fun σ' H' => Grow H1 H' ∧ ∃ m M, R X.K m M σ' H' ∧ dForGo src g tb D' (src.1.drop (i + 1)) m M, fun σ' H' ⟨g3, m3, M3, r3, q3⟩ => ⟨n - 1, by omega, by omega, g3, m3, M3, r3, q3⟩, fun x H' y => ?_⟩
      obtain ⟨g3, k3, d, e3, rd⟩ := st.yld i H2 x H' so hlt y
      have ed : d = src.1[i] := by
        rw [List.getElem?_eq_getElem hlt] at e3
        exact (Option.some.inj e3).symm
      subst ed
      refine ⟨_, m2, M2, _, rd, r2.grow g3 (k3 _ r2.mem), q2, fun m4 M4 σ4 H4 g4 r4 _ q4 => ?_⟩
      have g04 : Grow H1 H4 := (g2.trans g3).trans g4
      refine ⟨m4, M4, _, r4, q4, ⟨fun m5 M5 σ5 H5 g5 r5 ⟨M6, l6, q6⟩ => ⟨g04.trans g5, m5, M6, r5.le l6, q6⟩, fun m5 M5 σ5 H5 g5 r5 q5 => k.nx m5 M5 σ5 H5 ((g1.trans g04).trans g5) r5 q5,
        fun m5 M5 σ5 H5 g5 r5 ⟨M6, l6, q6⟩ => ⟨g04.trans g5, m5, M6, r5.le l6, q6⟩, fun d v M5 H5 g5 => k.rt d v M5 H5 ((g1.trans g04).trans g5)⟩⟩
    · have e : i = src.1.length := by omega
      subst e
      rw [List.drop_length] at q2
      obtain ⟨sv, q2⟩ := q2
      exact .inl ⟨st.stop H2 (sv.ok g2 r2.mem), k.nx m2 M2 σ2 H2 (g1.trans g2) r2 q2⟩
def dWhile (c : DTT) (tb : DTS) : DTS := fun D m M => ∃ W : Nat → DSt → DM → Prop, (∃ n, W n m M) ∧ ∀ n m M, W n m M → c m M fun k M1 =>
  if k = true then tb { D with nx := fg fun m' M' => ∃ n', n' < n ∧ W n' m' M', ct := fg fun m' M' => ∃ n', n' < n ∧ W n' m' M', bk := D.nx } m M1 else D.nx m M1
theorem ds_while {c : Expr} {body : List Stmt} {tc : DTT} (hp : PassesOwn (model X.prog X.w) X.A X.env X.xe) (hc : DT X c tc) (hb : DSs X body tb) : DS X (.While c body [] pos) (dWhile tc tb) :=
  imS (ps_while hp hc hb) fun D σ H ⟨m, M, D', r, ⟨W, ⟨n0, w0⟩, turn⟩, k⟩ => by
    refine ⟨fun n σ H1 => Grow H H1 ∧ ∃ m M, R X.K m M σ H1 ∧ W n m M, ⟨n0, .refl _, m, M, r, w0⟩, ?_⟩
    rintro n σ1 H1 ⟨g1, m1, M1, r1, w1⟩
    refine ⟨m1, M1, _, r1, turn n m1 M1 w1, fun y M2 H2 g2 m2 q2 => ?_⟩
    have r2 := r1.grow g2 m2
    cases y with
    | true =>
      refine ⟨fun σ' H' => ∃ n', n' < n ∧ Grow H H' ∧ ∃ m M, R X.K m M σ' H' ∧ W n' m M, fun σ' H' ⟨n', hn, y⟩ => ⟨n', hn, y⟩, ?_⟩
      refine ⟨m1, M2, _, r2, q2, ⟨fun m5 M5 σ5 H5 g5 r5 ⟨M6, l6, n', hn, q6⟩ => ⟨n', hn, (g1.trans g2).trans g5, m5, M6, r5.le l6, q6⟩, fun m5 M5 σ5 H5 g5 r5 q5 => k.nx m5 M5 σ5 H5 ((g1.trans g2).trans g5) r5 q5,
        fun m5 M5 σ5 H5 g5 r5 ⟨M6, l6, n', hn, q6⟩ => ⟨n', hn, (g1.trans g2).trans g5, m5, M6, r5.le l6, q6⟩, fun d v M5 H5 g5 => k.rt d v M5 H5 ((g1.trans g2).trans g5)⟩⟩
    | false => exact k.nx m1 M2 σ1 H2 (g1.trans g2) r2 q2
end
end DL
namespace DL
open PySem PySem.Spec PyProof.Rows L2

/-! ### items of a value -/
def dItems : D → DM → Option (List D)
  | .tup xs, _ => some xs
  | .lst xs, _ => some xs
  | .ref a, M => match M a with
    | some (.lst xs) => some xs
    | _ => none
  | _, _ => none
def dAt : D → Option Addr
  | .ref a => some a
  | _ => none
@[simp] theorem dItems_tup {xs : List D} {M : DM} : dItems (.tup xs) M = some xs := rfl
@[simp] theorem dItems_lst {xs : List D} {M : DM} : dItems (.lst xs) M = some xs := rfl
theorem dItems_ref {xs : List D} {M : DM} {a : Addr} (h : M a = some (.lst xs)) : dItems (.ref a) M = some xs := by
  simp [dItems, h]
theorem items_of {K : PySem.W.Frag} {H : Hp} {M : DM} {d : D} {v : V} {xs : List D} (r : Rep K H d v) (m : RM K H M) (e : dItems d M = some xs) :
    ∃ a vs, v = .ref a ∧ vs.length ≤ sizeLine ∧ RepL K H xs vs ∧ ((SqL K H a vs ∧ (∀ p, d = .ref p → p = a ∧ H a = some (.lst vs)) ∧ ((∃ p, d = .ref p) ∨ FrzL K H a vs)) ∨ (SqT K H a vs ∧ d = .tup xs)) := by
  cases r with
  | tup h z l =>
    cases e
    exact ⟨_, _, rfl, z, l, .inr ⟨h, rfl⟩⟩
  | lst h z l =>
    cases e
    exact ⟨_, _, rfl, z, l, .inl ⟨h.seq, (fun p q => nomatch q), .inr h⟩⟩
  | ref a =>
    have e' : (match M a with | some (.lst xs) => some xs | _ => none) = some xs := e
    cases q : M a with
    | none => rw [q] at e'; cases e'
    | some o =>
      rw [q] at e'
      cases o with
      | lst ys =>
        cases e'
        obtain ⟨vs, h1, z, l⟩ := m.lst q
        exact ⟨a, vs, rfl, z, l, .inl ⟨.of h1, fun p q => by cases q; exact ⟨rfl, h1⟩, .inl ⟨a, rfl⟩⟩⟩
      | dct _ _ => cases e'
      | tab _ => cases e'
      | dk _ => cases e'
  | _ => cases e

/-! ### what a list or tuple gives to a loop -/
section
variable {X : Cx} {tg l : Expr} {te : DTE} {pos p : Pos}
def iSeq (K : PySem.W.Frag) (tl : TE) : TI := fun σ H Rr => tl σ H fun x H1 => ∃ a, x = .ref a ∧ (((∃ xs, SqL K H1 a xs) ∧ Rr (Itl K a) H1) ∨ ((∃ xs, SqT K H1 a xs) ∧ Rr (Itt K a) H1))
theorem pi_seq {tl : TE} (hl : PE X l tl) : PI X tg l (iSeq X.K tl) := by
  refine ⟨fun pins s σ H Rr I h => thn (hl.run pins s σ H _ I h) fun v s1 ⟨x, H1, I1, r1, a, e, q⟩ => ?_⟩
  subst e
  cases r1
  have fp : ∀ b ∈ [s1.heap.objs.size], FpOk X pins H1 b := fun b hb => by
    have e : b = s1.heap.objs.size := by simpa using hb
    subst e
    exact I1.fpOk (Nat.le_refl _) (I1.hok.fresh (Nat.le_refl _))
  rcases q with ⟨⟨xs, hq⟩, q⟩ | ⟨⟨xs, hq⟩, q⟩
  · obtain ⟨its, _, pl, _⟩ := I1.list hq
    exact wpAny_pyIter_list pl.isList ⟨_, [s1.heap.objs.size], _, _, H1, rfl, I1.kept (t' := s1.toks) fun b o e => Heap.get?_push_of_some _ e,
      turn_list a _, ⟨_, Heap.get?_push_size _ rfl, rfl, rfl⟩, fp, q⟩
  · obtain ⟨its, _, pt, _⟩ := I1.tuple hq
    exact wpAny_pyIter_tuple (show s1.heap.IsTuple a its.toArray from pt) ⟨_, [s1.heap.objs.size], _, _, H1, rfl, I1.kept (t' := s1.toks) fun b o e => Heap.get?_push_of_some _ e,
      turn_tuple a _, ⟨_, Heap.get?_push_size _ rfl, rfl, rfl⟩, fp, q⟩
theorem sqL_inj {K : PySem.W.Frag} {H : Hp} {a : Addr} {vs : List V} (h : H a = some (.lst vs)) : SqL K H a vs := .of h
def diSeq (te : DTE) : DTI := fun m M Q => te m M fun d M1 => ∃ xs, dItems d M1 = some xs ∧ Q (xs, dAt d) M1
theorem stream_list {K : PySem.W.Frag} {H0 : Hp} {xs : List D} {at' : Option Addr} {a : Addr} {vs : List V} (z : vs.length ≤ sizeLine) (l : RepL K H0 xs vs)
    (hs : ∀ H, SrcOk K (xs, at') H0 H → ∃ ws, SqL K H a ws ∧ RepL K H xs ws) : Stream K (Itl K a) (xs, at') H0 := by
  refine ⟨by rw [show (xs, at').1 = xs from rfl, l.length]; exact z, fun i H ok hi => ?_, fun i H x H' ok hi y => ?_, fun H ok => ?_⟩
  · obtain ⟨ws, h1, h2⟩ := hs H ok
    obtain ⟨w, e, _⟩ := h2.get (List.getElem?_eq_getElem hi)
    exact ⟨ws, w, h1, e⟩
  · obtain ⟨ws, h1, h2⟩ := hs H ok
    obtain ⟨e1, e2⟩ := y
    subst e1
    obtain ⟨d, e3, rd⟩ := h2.get' (e2 ws h1)
    exact ⟨.refl _, fun _ q => q, d, e3, rd⟩
  · obtain ⟨ws, h1, h2⟩ := hs H ok
    exact ⟨ws, h1, by rw [← h2.length]; exact Nat.le_refl _⟩
theorem stream_tup {K : PySem.W.Frag} {H0 : Hp} {xs : List D} {at' : Option Addr} {a : Addr} {vs : List V} (z : vs.length ≤ sizeLine) (l : RepL K H0 xs vs) (h : SqT K H0 a vs) : Stream K (Itt K a) (xs, at') H0 := by
  refine ⟨by rw [show (xs, at').1 = xs from rfl, l.length]; exact z, fun i H ok hi => ?_, fun i H x H' ok hi y => ?_, fun H ok => ?_⟩
  · obtain ⟨w, e, _⟩ := l.get (List.getElem?_eq_getElem hi)
    exact ⟨vs, w, sqT_grow h ok.1, e⟩
  · obtain ⟨e1, e2⟩ := y
    subst e1
    obtain ⟨d, e3, rd⟩ := l.get' (e2 vs (sqT_grow h ok.1))
    exact ⟨.refl _, fun _ q => q, d, e3, rd.grow ok.1⟩
  · exact ⟨vs, sqT_grow h ok.1, by rw [← l.length]; exact Nat.le_refl _⟩
theorem di_seq (h : DE X l te) : DI X tg l (diSeq te) :=
  imI (pi_seq h) fun σ H Q ⟨m, M, Q', r, q, k⟩ => by
    refine ⟨m, M, _, r, q, fun d v M1 H1 g1 r1 m1 ⟨xs, e, q1⟩ => ?_⟩
    obtain ⟨a, vs, rfl, z, l, ⟨h1, h2, h3⟩ | ⟨h1, h2⟩⟩ := items_of r1 m1 e
    · refine ⟨a, rfl, .inl ⟨⟨vs, h1⟩, k _ M1 H1 _ g1 m1 q1 (stream_list z l fun H2 ok => ?_)⟩⟩
      rcases h3 with ⟨p, hp⟩ | h3
      · subst hp
        obtain ⟨e1, _⟩ := h2 p rfl
        subst e1
        obtain ⟨ws, h5, h6⟩ := ok.2 p rfl
        exact ⟨ws, .of h5, h6⟩
      · exact ⟨vs, (h3.grow ok.1).seq, l.grow ok.1⟩
    · exact ⟨a, rfl, .inr ⟨⟨vs, h1⟩, k _ M1 H1 _ g1 m1 q1 (stream_tup z l h1)⟩⟩
def rangeD (lo : Int) (n : Nat) : List D := (List.range n).map fun i => D.int (lo + (i : Nat))
theorem stream_range {K : PySem.W.Frag} {H0 : Hp} {lo : Int} {n : Nat} (hz : n ≤ sizeLine) : Stream K (Itr lo n) (rangeD lo n, none) H0 := by
  have hl : (rangeD lo n).length = n := by simp [rangeD]
  refine ⟨by rw [show (rangeD lo n, (none : Option Addr)).1 = rangeD lo n from rfl, hl]; exact hz, fun i H ok hi => ?_, fun i H x H' ok hi y => ?_, fun H ok => ?_⟩
  · exact (by rw [← hl]; exact hi : i < n)
  · obtain ⟨e1, e2⟩ := y
    subst e1
    subst e2
    have hi' : i < n := by rw [← hl]; exact hi
    exact ⟨.refl _, fun _ q => q, .int (lo + (i : Nat)), by simp [rangeD, hi'], .int _⟩
  · show n ≤ (rangeD lo n).length
    omega
def diRng1 (t : DTA) : DTI := fun m M Q => t m M fun ds M1 => ∃ j : Int, ds = [.int j] ∧ j ≤ 16777216 ∧ -1000000000 ≤ j ∧ Q (rangeD 0 j.toNat, none) M1
def diRng2 (t : DTA) : DTI := fun m M Q => t m M fun ds M1 => ∃ i j : Int, ds = [.int i, .int j] ∧ (-1000000000 ≤ i ∧ i ≤ 1000000000 ∧ -1000000000 ≤ j ∧ j ≤ 1000000000) ∧ j - i ≤ 16777216 ∧ Q (rangeD i (j - i).toNat, none) M1
theorem repL_one {K : PySem.W.Frag} {H : Hp} {d : D} {vs : List V} (h : RepL K H [d] vs) : ∃ v, vs = [v] ∧ Rep K H d v := by
  cases h with
  | cons a b =>
    cases b
    exact ⟨_, rfl, a⟩
theorem repL_two {K : PySem.W.Frag} {H : Hp} {d e : D} {vs : List V} (h : RepL K H [d, e] vs) : ∃ v w, vs = [v, w] ∧ Rep K H d v ∧ Rep K H e w := by
  cases h with
  | cons a b =>
    obtain ⟨w, e, r⟩ := repL_one b
    subst e
    exact ⟨_, w, rfl, a, r⟩
theorem di_range1 {a : Expr} {t : DTA} (hg : Gl X "range") (hm : X.mg "range" = none) (ha : DA X [a] t) (hs : starEach [a] X.env = [(false, eval a X.env)] := by rfl) : DI X tg (.Call (.Name "range" p) [a] [] pos) (diRng1 t) :=
  imI (pi_range1 hg hm ha hs) fun σ H Q ⟨m, M, Q', r, q, k⟩ => by
    refine ⟨m, M, _, r, q, fun ds vs M1 H1 g1 r1 m1 ⟨j, e, h1, h2, q1⟩ => ?_⟩
    subst e
    obtain ⟨v, e, rv⟩ := repL_one r1
    subst e
    cases rv
    have hsl := sizeLine_eq
    exact ⟨j, rfl, by omega, by omega, k _ M1 H1 _ g1 m1 q1 (stream_range (by omega))⟩
theorem di_range2 {a b : Expr} {t : DTA} (hg : Gl X "range") (hm : X.mg "range" = none) (ha : DA X [a, b] t) (hs : starEach [a, b] X.env = [(false, eval a X.env), (false, eval b X.env)] := by rfl) (hs2 : starEach [b] X.env = [(false, eval b X.env)] := by rfl) :
    DI X tg (.Call (.Name "range" p) [a, b] [] pos) (diRng2 t) :=
  imI (pi_range2 hg hm ha hs hs2) fun σ H Q ⟨m, M, Q', r, q, k⟩ => by
    refine ⟨m, M, _, r, q, fun ds vs M1 H1 g1 r1 m1 ⟨i, j, e, ⟨h1, h2, h3, h4⟩, h5, q1⟩ => ?_⟩
    subst e
    obtain ⟨v, w, e, rv, rw'⟩ := repL_two r1
    subst e
    cases rv
    cases rw'
    have hsl := sizeLine_eq
    exact ⟨i, j, rfl, ⟨by omega, by omega, by omega, by omega⟩, k _ M1 H1 _ g1 m1 q1 (stream_range (by omega))⟩
end

/-! ### comprehensions -/
def dwipe (m : DSt) : List Nat → DSt
  | [] => m
  | v :: vs => (dwipe m vs).set v none
theorem wipe_get (σ : SL) : ∀ (vs : List Nat) (i : Nat), (wipe σ vs)[i]? = if i ∈ vs then (if i < σ.length then some none else none) else σ[i]?
  | [], i => by simp [wipe]
  | v :: vs, i => by
    unfold wipe
    by_cases h : v = i
    · subst h
      by_cases hl : v < σ.length
      · rw [List.getElem?_set_self (by rw [wipe_length]; exact hl)]
        simp [hl]
      · rw [List.getElem?_eq_none (by rw [List.length_set, wipe_length]; omega)]
        simp [hl]
    · rw [List.getElem?_set_ne h, wipe_get σ vs i]
      have : ¬ i = v := fun z => h z.symm
      simp [this]
theorem dwipe_len (m : DSt) : ∀ vs : List Nat, (dwipe m vs).length = m.length
  | [] => rfl
  | v :: vs => by
    unfold dwipe
    rw [List.length_set, dwipe_len m vs]
theorem dwipe_some {m : DSt} {i : Nat} {d : D} : ∀ {vs : List Nat}, (dwipe m vs)[i]? = some (some d) → m[i]? = some (some d) ∧ i ∉ vs
  | [], h => ⟨h, by simp⟩
  | v :: vs, h => by
    unfold dwipe at h
    by_cases hv : v = i
    · subst hv
      by_cases hl : v < (dwipe m vs).length
      · rw [List.getElem?_set_self hl] at h
        cases h
      · rw [List.getElem?_eq_none (by rw [List.length_set]; omega)] at h
        cases h
    · rw [List.getElem?_set_ne hv] at h
      obtain ⟨h1, h2⟩ := dwipe_some h
      have : ¬ i = v := fun z => hv z.symm
      exact ⟨h1, by simp [this, h2]⟩
theorem R.wipe {K : PySem.W.Frag} {m : DSt} {M : DM} {σ : SL} {H : Hp} (r : R K m M σ H) (vs : List Nat) : R K (dwipe m vs) M (wipe σ vs) H := by
  refine ⟨by rw [dwipe_len, wipe_length]; exact r.len, fun i d e => ?_, r.mem⟩
  obtain ⟨h1, h2⟩ := dwipe_some e
  obtain ⟨v, h3, h4⟩ := r.slot i d h1
  exact ⟨v, by rw [wipe_get, if_neg h2]; exact h3, h4⟩
theorem wipe_off {ws vs : List Nat} {σ σ' : SL} (o : Off ws (wipe σ vs) σ') (hs : ∀ i ∈ ws, i ∈ vs) : wipe σ' vs = wipe σ vs := by
  apply List.ext_getElem?
  intro i
  have hl : σ'.length = σ.length := by rw [o.1, wipe_length]
  rw [wipe_get, wipe_get, hl]
  by_cases h : i ∈ vs
  · rw [if_pos h, if_pos h]
  · rw [if_neg h, if_neg h, o.2 i fun z => h (hs i z), wipe_get, if_neg h]
def dLcGo (src : Src) (g : DTG) (tt : DTT) (te : DTE) (m0 : DSt) (p : Addr) (Qd : List D → DM → Prop) : List D → List D → DM → Prop
  | [], acc, M => SrcV src M ∧ Qd acc M
  | d :: ds, acc, M => SrcV src M ∧ g d m0 M fun m1 M1 => tt m1 M1 fun b M2 =>
      if b = true then te m1 M2 fun y M3 => M3 p = some (.lst acc) ∧ dLcGo src g tt te m0 p Qd ds (acc ++ [y]) (mput M3 p (.lst (acc ++ [y])))
      else M2 p = some (.lst acc) ∧ dLcGo src g tt te m0 p Qd ds acc M2
/-- [e for ..]: a list that will be changed, one that stays -/
def dLc (t : DTI) (g : DTG) (tt : DTT) (te : DTE) (vs : List Nat) : DTE := fun m M Q => t m M fun src M1 => src.1.length ≤ sizeLine → ∀ p, M1 p = none → dLcGo src g tt te (dwipe m vs) p (fun _ M2 => Q (.ref p) M2) src.1 [] (mput M1 p (.lst []))
def dLcF (t : DTI) (g : DTG) (tt : DTT) (te : DTE) (vs : List Nat) : DTE := fun m M Q => t m M fun src M1 => src.1.length ≤ sizeLine → ∀ p, M1 p = none → dLcGo src g tt te (dwipe m vs) p (fun acc M2 => Q (.lst acc) (mdel M2 p)) src.1 [] (mput M1 p (.lst []))
abbrev dYes : DTT := fun _ M Q => Q true M
section
variable {X : Cx} {elt tg iter : Expr} {ifs : List Expr} {scope : Scope} {own : List (Str × Nat)} {pos : Pos} {t : DTI} {g : DTG} {tt : DTT} {te : DTE} {ws : List Nat}
abbrev DPTs (X : Cx) (ifs : List Expr) (t : DTT) : Prop := PTs X ifs (upT X.K t)
theorem dts_nil : DPTs X [] dYes := ⟨fun pins s σ H Q I h => pts_nil.run pins s σ H Q I (by
  obtain ⟨m, M, Q', r, q, k⟩ := h
  exact k true M H (.refl H) r.mem q)⟩
theorem dts_one {c : Expr} {t : DTT} (h : DT X c t) : DPTs X [c] t := pts_one h
theorem lc_up {K : PySem.W.Frag} {vs : List Nat} (hsub : ∀ i ∈ ws, i ∈ vs) {σ : SL} {H : Hp} {Q : VK} {Qf : Addr → List D → DM → Prop}
    (fin : ∀ p acc ws M2 H2, Grow H H2 → RM K H2 M2 → H2 p = some (.lst ws) → ws.length ≤ sizeLine → RepL K H2 acc ws → M2 p = some (.lst acc) → Qf p acc M2 → Q (.ref p) H2)
    (m : DSt) (M : DM) (r : R K m M σ H) (q : t m M fun src M1 => src.1.length ≤ sizeLine → ∀ p, M1 p = none → dLcGo src g tt te (dwipe m vs) p (Qf p) src.1 [] (mput M1 p (.lst []))) :
    tLc (upI K t) (upG K ws g) (upT K tt) (upE K te) vs σ H Q := by
  refine ⟨m, M, _, r, q, fun src M1 H1 J g1 m1 q1 st p np => ?_⟩
  have q2 := q1 st.small p (m1.free np)
  have g2 : Grow H1 (upd H1 p (.lst [])) := .new np
  refine ⟨fun i n H2 => i + n = src.1.length ∧ Grow H1 H2 ∧ ∃ acc M2, acc.length ≤ i ∧ M2 p = some (.lst acc) ∧ RM K H2 M2 ∧ dLcGo src g tt te (dwipe m vs) p (Qf p) (src.1.drop i) acc M2,
    ⟨src.1.length, by omega, g2, [], _, Nat.le_refl _, mput_same, m1.newLst np (Nat.zero_le _) .nil, q2⟩, ?_⟩
  rintro i n H2 ⟨hl, g3, acc, M2, ha, hp, m2, q3⟩
  have r2 : R K (dwipe m vs) M2 (wipe σ vs) H2 := (r.wipe vs).grow (g1.trans g3) m2
  by_cases hlt : i < src.1.length
  · rw [List.drop_eq_getElem_cons hlt] at q3
    obtain ⟨sv, q3⟩ := q3
    have so := sv.ok g3 m2
    refine .inr ⟨st.go i H2 so hlt, fun H3 => Grow H1 H3 ∧ ∃ acc M2, acc.length ≤ i + 1 ∧ M2 p = some (.lst acc) ∧ RM K H3 M2 ∧ dLcGo src g tt te (dwipe m vs) p (Qf p) (src.1.drop (i + 1)) acc M2,
      fun H3 ⟨g4, z⟩ => ⟨n - 1, by omega, by omega, g4, z⟩, fun x H3 y => ?_⟩
    obtain ⟨g4, k4, d, e4, rd⟩ := st.yld i H2 x H3 so hlt y
    have ed : d = src.1[i] := by
      rw [List.getElem?_eq_getElem hlt] at e4
      exact (Option.some.inj e4).symm
    subst ed
    refine ⟨_, _, M2, _, rd, r2.grow g4 (k4 _ m2), q3, fun m5 M5 σ5 H5 g5 r5 o5 q5 => ⟨wipe_off o5 hsub, ?_⟩⟩
    refine ⟨m5, M5, _, r5, q5, fun b M6 H6 g6 m6 q6 => ?_⟩
    have g06 : Grow H1 H6 := ((g3.trans g4).trans g5).trans g6
    cases b with
    | true =>
      refine ⟨m5, M6, _, r5.grow g6 m6, q6, fun y v M7 H7 g7 rv m7 ⟨e7, q7⟩ => ?_⟩
      obtain ⟨us, h8, z8, l8⟩ := m7.lst e7
      have hsz : us.length < sizeLine := by
        rw [← l8.length]
        exact Nat.lt_of_le_of_lt ha (Nat.lt_of_lt_of_le hlt st.small)
      refine ⟨us, h8, hsz, (g06.trans g7).trans (.put h8), acc ++ [y], _, by rw [List.length_append]; simp; omega, mput_same, m7.putLst h8 (by rw [List.length_append]; exact hsz) (l8.append (.one rv)), q7⟩
    | false =>
      have q6' : M6 p = some (.lst acc) ∧ dLcGo src g tt te (dwipe m vs) p (Qf p) (src.1.drop (i + 1)) acc M6 := q6
      exact ⟨g06, acc, M6, by omega, q6'.1, m6, q6'.2⟩
  · have e : i = src.1.length := by omega
    subst e
    rw [List.drop_length] at q3
    obtain ⟨us, h8, z8, l8⟩ := m2.lst hp
    exact .inl ⟨st.stop H2 (q3.1.ok g3 m2), fin p acc us M2 H2 (g1.trans g3) m2 h8 z8 l8 hp q3.2⟩
theorem d_lc (hc : X.calm = true) (hN : X.N.Nodup) (hi : DI X tg iter t) (ok : BlkOk X.N X.env.scope scope own) (hsub : ∀ i ∈ ws, i ∈ own.map (·.2))
    (hg : ∀ (s : Shared) (H : Hp) (C : Addr) (cl : List (Str × Addr)) (fp : List Addr), DG (X.blk s H scope (compEnvC scope cl C X.env) fp) ws tg g)
    (ht : ∀ (s : Shared) (H : Hp) (C : Addr) (cl : List (Str × Addr)) (fp : List Addr), DPTs (X.blk s H scope (compEnvC scope cl C X.env) fp) ifs tt)
    (he : ∀ (s : Shared) (H : Hp) (C : Addr) (cl : List (Str × Addr)) (fp : List Addr), DE (X.blk s H scope (compEnvC scope cl C X.env) fp) elt te)
    (hs : ∀ x, foldedSetIterable iter X.env x = pure x := by intro _; rfl) : DE X (.ListComp elt [⟨tg, iter, ifs, 0⟩] scope pos) (dLc t g tt te (own.map (·.2))) :=
  imE (pe_lc hc hN hi ok hg ht he hs) fun σ H Q ⟨m, M, Q', r, q, k⟩ =>
    lc_up (Qf := fun p _ M2 => Q' (.ref p) M2) hsub (fun p acc ws M2 H2 g2 m2 _ _ _ _ q2 => k _ _ M2 H2 g2 (.ref p) m2 q2) m M r q
theorem d_lcF (hc : X.calm = true) (hN : X.N.Nodup) (hi : DI X tg iter t) (ok : BlkOk X.N X.env.scope scope own) (hsub : ∀ i ∈ ws, i ∈ own.map (·.2))
    (hg : ∀ (s : Shared) (H : Hp) (C : Addr) (cl : List (Str × Addr)) (fp : List Addr), DG (X.blk s H scope (compEnvC scope cl C X.env) fp) ws tg g)
    (ht : ∀ (s : Shared) (H : Hp) (C : Addr) (cl : List (Str × Addr)) (fp : List Addr), DPTs (X.blk s H scope (compEnvC scope cl C X.env) fp) ifs tt)
    (he : ∀ (s : Shared) (H : Hp) (C : Addr) (cl : List (Str × Addr)) (fp : List Addr), DE (X.blk s H scope (compEnvC scope cl C X.env) fp) elt te)
    (hs : ∀ x, foldedSetIterable iter X.env x = pure x := by intro _; rfl) : DE X (.ListComp elt [⟨tg, iter, ifs, 0⟩] scope pos) (dLcF t g tt te (own.map (·.2))) :=
  imE (pe_fz (pe_lc hc hN hi ok hg ht he hs)) fun σ H Q ⟨m, M, Q', r, q, k⟩ =>
    lc_up (Qf := fun p acc M2 => Q' (.lst acc) (mdel M2 p)) hsub (fun p acc ws M2 H2 g2 m2 h8 z8 l8 _ q2 =>
      ⟨p, ws, rfl, h8, fun o => k _ _ _ _ (g2.trans (.put h8)) (.lst (.inl ⟨o, upd_same⟩) z8 (l8.grow (.put h8))) (m2.frz h8) q2⟩) m M r q
end

/-! ### defs -/
abbrev DSp := List D → DM → DVK → Prop
def upSp (K : PySem.W.Frag) (dsp : DSp) : Sp := fun vs H Q _ => ∃ ds M Q', RepL K H ds vs ∧ RM K H M ∧ dsp ds M Q' ∧
  ∀ d v M' H', Grow H H' → Rep K H' d v → RM K H' M' → Q' d M' → Q v H'
/-- the def x keeps the promise dsp -/
structure Cal (P : Program) (w : World) (K : PySem.W.Frag) (mg : Str → Option Value) (base : Heap) (k : Nat) (x : Str) (ps : List Str) (dsp : DSp) : Prop where
  ex : ∃ f fd, FnOk P w K mg base CX0 k f fd ps (upSp K dsp) ∧ mg x = some (.ref f) ∧ PySem.W.keepIn K (.ref f) = true ∧ Binds K fd ps []
/-- the def x as the top has left it -/
structure Def (K : PySem.W.Frag) (mg : Str → Option Value) (x : Str) (st : Stmt) (ps : List Str) : Prop where
  ex : ∃ f fd, Fun K x x st f fd ∧ mg x = some (.ref f) ∧ Binds K fd ps []
def dCall (dsp : DSp) (t : DTA) : DTE := fun m M Q => t m M fun ds M1 => dsp ds M1 Q
def ret (Q : DVK) : DVK := fun d M => ∃ M0, MLe M0 M ∧ Q d M0
theorem ret_of {Q : DVK} {d : D} {M : DM} (h : Q d M) : ret Q d M := ⟨M, .refl M, h⟩
theorem ret_le {Q : DVK} {d : D} {M M0 : DM} (l : MLe M0 M) (h : Q d M0) : ret Q d M := ⟨M0, l, h⟩
def dstart (N : List Str) (ds : List D) : DSt := ds.map some ++ List.replicate (N.length - ds.length) none
def dEnds (Q : DVK) : DEnds := { nx := fun _ M => ret Q .non M, rt := ret Q }
section
variable {P : Program} {w : World} {K : PySem.W.Frag} {mg : Str → Option Value} {base : Heap} {k j : Nat} {x : Str} {ps N : List Str} {dsp : DSp} {st : Stmt}
abbrev Ctx (P : Program) (w : World) (K : PySem.W.Frag) (mg : Str → Option Value) (base : Heap) (N : List Str) (x : Str) (st : Stmt) (f : Addr) (cdv : Value) (A : Around) (outer : List Env) (s : Shared) (H : Hp) (E : XK) : Cx :=
  (cxOf CX0 P w K mg base N x (defScope st) f cdv A outer s H E).nox
theorem start_slot {H : Hp} {ds : List D} {vs : List V} {n i : Nat} {d : D} (l : RepL K H ds vs) (e : (ds.map some ++ List.replicate (n - ds.length) none)[i]? = some (some d)) :
    ∃ v, (vs.map some ++ List.replicate (n - vs.length) none)[i]? = some (some v) ∧ Rep K H d v := by
  have hl := l.length
  by_cases hi : i < ds.length
  · rw [List.getElem?_append_left (by simpa using hi)] at e
    rw [List.getElem?_append_left (by simpa [← hl] using hi)]
    rw [List.getElem?_map] at e ⊢
    cases q : ds[i]? with
    | none => rw [q] at e; cases e
    | some d' =>
      rw [q] at e
      cases e
      obtain ⟨v, h1, h2⟩ := l.get q
      exact ⟨v, by rw [h1]; rfl, h2⟩
  · rw [List.getElem?_append_right (by simpa using hi), List.getElem?_replicate] at e
    split at e <;> cases e
/-- THE RULE for a def -/
theorem Def.cal (F : Def K mg x st ps) (S : FnScope N ps (defScope st)) (len : ∀ ds M Q, dsp ds M Q → ds.length = ps.length) {t : DTS}
    (body : ∀ (f : Addr) (cdv : Value) (A : Around) (outer : List Env) (s : Shared) (H : Hp) (E : XK), Room k (A.deeper (envOfC x (defScope st) s.heap.objs.size f cdv)) → DSs (Ctx P w K mg base N x st f cdv A outer s H E) (defBody st) t)
    (rd : ∀ ds M Q, dsp ds M Q → t (dEnds Q) (dstart N ds) M) : Cal P w K mg base (k + 1) x ps dsp := by
  obtain ⟨f, fd, F, hm, hb⟩ := F.ex
  refine ⟨f, fd, F.ok S (fun vs H Q E ⟨ds, M, Q', l, _, q, _⟩ => by rw [← l.length]; exact len ds M Q' q) (fun cdv A outer s H vs Q E hr ⟨ds, M, Q', l, m, q, kk⟩ => ?_), hm, F.kp, hb⟩
  refine ⟨_, body f cdv A outer s H E hr, dstart N ds, M, dEnds Q', ⟨?_, fun i d e => start_slot l e, m⟩, rd ds M Q' q,
    ⟨fun m1 M1 σ1 H1 g1 r1 ⟨M0, le, q1⟩ => kk _ _ M0 H1 g1 .non (r1.mem.le le) q1, fun _ _ _ _ _ _ z => z.elim, fun _ _ _ _ _ _ z => z.elim, fun d v M1 H1 g1 r1 m1 ⟨M0, le, q1⟩ => kk d v M0 H1 g1 r1 (m1.le le) q1⟩⟩
  simp [dstart, L2.start, l.length]
theorem Cal.mono (C : Cal P w K mg base j x ps dsp) (h : j ≤ k) : Cal P w K mg base k x ps dsp :=
  let ⟨f, fd, F, a, b, c⟩ := C.ex; ⟨f, fd, F.mono h, a, b, c⟩
/-- a weaker promise -/
theorem Cal.imp {dsp' : DSp} (C : Cal P w K mg base k x ps dsp) (h : ∀ ds M Q, dsp' ds M Q → dsp ds M Q) : Cal P w K mg base k x ps dsp' :=
  let ⟨f, fd, F, a, b, c⟩ := C.ex; ⟨f, fd, F.imp fun vs H Q E ⟨ds, M, Q', l, m, q, kk⟩ => ⟨ds, M, Q', l, m, h ds M Q' q, kk⟩, a, b, c⟩
end
section
variable {X : Cx} {k : Nat} {x : Str} {ps : List Str} {dsp : DSp} {e : Expr} {es : List Expr} {p pos : Pos} {t : DTA}
theorem call_up {σ : SL} {H : Hp} {Q : VK} (h : upE X.K (dCall dsp t) σ H Q) : tCall (upSp X.K dsp) [] E0 (upA X.K t) σ H Q := by
  obtain ⟨m, M, Q', r, q, kk⟩ := h
  refine ⟨m, M, _, r, q, fun ds vs M1 H1 g1 l1 m1 q1 => ?_⟩
  exact ⟨ds, M1, Q', by rw [List.append_nil]; exact l1, m1, q1, fun d v M2 H2 g2 => kk d v M2 H2 (g1.trans g2)⟩
theorem d_call (C : Cal X.prog X.w X.K X.mg X.base k x ps dsp) (hr : Room k X.A) (hg : Gl X x) (ha : DA X (e :: es) t) (hdb : (x == ("__debug__" : Str)) = false := by decide)
    (he : starEach (e :: es) X.env = (false, eval e X.env) :: starEach es X.env := by rfl) (hpl : (backTo pos (starEach es X.env)).any (·.1) = false := by rfl) : DE X (.Call (.Name x p) (e :: es) [] pos) (dCall dsp t) := by
  obtain ⟨f, fd, F, hm, hk, hb⟩ := C.ex
  exact imE (pe_call F hr hg hm hk hb .nil pass0 ha hdb he hpl) fun σ H Q h => call_up (σ := σ) (H := H) (Q := Q) h
theorem d_call0 (C : Cal X.prog X.w X.K X.mg X.base k x ps dsp) (hr : Room k X.A) (hg : Gl X x) (hdb : (x == ("__debug__" : Str)) = false := by decide) : DE X (.Call (.Name x p) [] [] pos) (dCall dsp dNil) := by
  obtain ⟨f, fd, F, hm, hk, hb⟩ := C.ex
  refine imE (pe_call0 F hr hg hm hk hb .nil pass0 hdb) fun σ H Q ⟨m, M, Q', r, q, kk⟩ => ?_
  exact ⟨[], M, Q', .nil, r.mem, q, kk⟩

/-! ### built-ins -/
abbrev DCR := List D → DM → DVK → Prop
def upC (K : PySem.W.Frag) (dr : DCR) : List V → Hp → VK → Prop := fun vs H Q => ∃ ds M Q', RepL K H ds vs ∧ RM K H M ∧ dr ds M Q' ∧
  ∀ d v M' H', Grow H H' → Rep K H' d v → RM K H' M' → Q' d M' → Q v H'
abbrev DCall (X : Cx) (f : Value) (dr : DCR) : Prop := CallR X f (upC X.K dr)
def dCB (dr : DCR) (t : DTA) : DTE := fun m M Q => t m M fun ds M1 => dr ds M1 Q
theorem cb_up {dr : DCR} {σ : SL} {H : Hp} {Q : VK} (h : upE X.K (dCB dr t) σ H Q) : tCB (upC X.K dr) (upA X.K t) σ H Q := by
  obtain ⟨m, M, Q', r, q, kk⟩ := h
  exact ⟨m, M, _, r, q, fun ds vs M1 H1 g1 l1 m1 q1 => ⟨ds, M1, Q', l1, m1, q1, fun d v M2 H2 g2 => kk d v M2 H2 (g1.trans g2)⟩⟩
theorem d_cb {id : String} {dr : DCR} (hc : DCall X (.builtin id) dr) (hg : Gl X x) (hm : X.mg x = none) (hv : bootBuiltins x = some (.builtin id)) (ha : DA X (e :: es) t) (hn : x ≠ "__name__" := by decide) (hdb : (x == ("__debug__" : Str)) = false := by decide)
    (he : starEach (e :: es) X.env = (false, eval e X.env) :: starEach es X.env := by rfl) (hpl : (backTo pos (starEach es X.env)).any (·.1) = false := by rfl) : DE X (.Call (.Name x p) (e :: es) [] pos) (dCB dr t) :=
  imE (pe_callB hc hg hm hv ha hn hdb he hpl) fun σ H Q h => cb_up (σ := σ) (H := H) (Q := Q) h
theorem d_ct {T : String} {dr : DCR} (hc : DCall X (.type T) dr) (hg : Gl X x) (hm : X.mg x = none) (hv : bootBuiltins x = some (.type T)) (ha : DA X (e :: es) t) (hn : x ≠ "__name__" := by decide) (hdb : (x == ("__debug__" : Str)) = false := by decide)
    (he : starEach (e :: es) X.env = (false, eval e X.env) :: starEach es X.env := by rfl) (hpl : (backTo pos (starEach es X.env)).any (·.1) = false := by rfl) : DE X (.Call (.Name x p) (e :: es) [] pos) (dCB dr t) :=
  imE (pe_callTy hc hg hm hv ha hn hdb he hpl) fun σ H Q h => cb_up (σ := σ) (H := H) (Q := Q) h
/-- a built-in function that a name of the module holds -/
theorem d_cm {id : String} {dr : DCR} (hc : DCall X (.builtin id) dr) (hg : Gl X x) (hm : X.mg x = some (.builtin id)) (ha : DA X (e :: es) t) (hdb : (x == ("__debug__" : Str)) = false := by decide)
    (he : starEach (e :: es) X.env = (false, eval e X.env) :: starEach es X.env := by rfl) (hpl : (backTo pos (starEach es X.env)).any (·.1) = false := by rfl) : DE X (.Call (.Name x p) (e :: es) [] pos) (dCB dr t) :=
  imE (pe_callBfun hc hg hm ha hdb he hpl) fun σ H Q h => cb_up (σ := σ) (H := H) (Q := Q) h
end
end DL
namespace DL
open PySem PySem.Spec PyProof.Rows L2

/-! ### data: what == reads -/
mutual
def D.py : D → PyData
  | .non => .none
  | .bl b => .bool b
  | .int i => .int i
  | .str x => .str x
  | .tup xs => .tuple (D.pys xs)
  | .lst xs => .list (D.pys xs)
  | .dct _ => .none
  | .dmt _ _ => .none
  | .ref _ => .none
  | .ty _ => .none
def D.pys : List D → List PyData
  | [] => []
  | x :: xs => D.py x :: D.pys xs
end
/-- plain data, at most n deep -/
def dOk : Nat → D → Bool
  | _, .non => true
  | _, .bl _ => true
  | _, .int _ => true
  | _, .str x => PyData.strOk x
  | n + 1, .tup xs => xs.all (dOk n)
  | n + 1, .lst xs => xs.all (dOk n)
  | _, _ => false
def D.eqv (x y : D) : Bool := PyData.eqv x.py y.py
theorem pys_len : ∀ xs : List D, (D.pys xs).length = xs.length
  | [] => rfl
  | _ :: xs => congrArg (· + 1) (pys_len xs)
theorem pys_map : ∀ xs : List D, D.pys xs = xs.map D.py
  | [] => by simp [D.pys]
  | x :: xs => by simp [D.pys, pys_map xs]
theorem lay_all : ∀ {n : Nat} {xs : List D}, (∀ x ∈ xs, x.py.canLay0 = true ∧ x.py.depth ≤ n) → PyData.canLayAll0 (D.pys xs) = true ∧ PyData.depthAll (D.pys xs) ≤ n
  | n, [], _ => by simp [D.pys, PyData.canLayAll0, PyData.depthAll]
  | n, x :: xs, h => by
    obtain ⟨h1, h2⟩ := h x (by simp)
    obtain ⟨h3, h4⟩ := lay_all (n := n) (xs := xs) fun y hy => h y (by simp [hy])
    simp only [D.pys, PyData.canLayAll0, PyData.depthAll, h1, h3, Bool.and_self, true_and]
    omega
theorem dOk_lay : ∀ (n : Nat) (d : D), dOk n d = true → d.py.canLay0 = true ∧ d.py.depth ≤ n
  | n, .non, _ => by simp [D.py, PyData.canLay0, PyData.depth]
  | n, .bl _, _ => by simp [D.py, PyData.canLay0, PyData.depth]
  | n, .int _, _ => by simp [D.py, PyData.canLay0, PyData.depth]
  | n, .str x, h => by
    have h' : PyData.strOk x = true := by
      cases n <;> exact h
    simp [D.py, PyData.canLay0, PyData.depth, h']
  | 0, .tup xs, h => by cases h
  | 0, .lst xs, h => by cases h
  | n + 1, .tup xs, h => by
    have h' : xs.all (dOk n) = true := h
    have z := lay_all (n := n) (xs := xs) fun x hx => dOk_lay n x (List.all_eq_true.mp h' x hx)
    simp only [D.py, PyData.canLay0, PyData.depth]
    exact ⟨z.1, Nat.succ_le_succ z.2⟩
  | n + 1, .lst xs, h => by
    have h' : xs.all (dOk n) = true := h
    have z := lay_all (n := n) (xs := xs) fun x hx => dOk_lay n x (List.all_eq_true.mp h' x hx)
    simp only [D.py, PyData.canLay0, PyData.depth]
    exact ⟨z.1, Nat.succ_le_succ z.2⟩
  | n, .dct _, h => by cases n <;> cases h
  | n, .dmt _ _, h => by cases n <;> cases h
  | n, .ref _, h => by cases n <;> cases h
  | n, .ty _, h => by cases n <;> cases h
theorem dOk_shaped {n : Nat} {d : D} (h : dOk n d = true) (hn : n ≤ 64) : SeqAt.shaped d.py = true := by
  obtain ⟨h1, h2⟩ := dOk_lay n d h
  unfold SeqAt.shaped
  rw [h1, Bool.true_and]
  exact decide_eq_true (Nat.le_trans h2 hn)
theorem dOk_mono : ∀ {n m : Nat} {d : D}, dOk n d = true → n ≤ m → dOk m d = true
  | _, m, .non, _, _ => by cases m <;> rfl
  | _, m, .bl _, _, _ => by cases m <;> rfl
  | _, m, .int _, _, _ => by cases m <;> rfl
  | n, m, .str x, h, _ => by
    have h' : PyData.strOk x = true := by cases n <;> exact h
    cases m <;> exact h'
  | 0, _, .tup _, h, _ => by cases h
  | 0, _, .lst _, h, _ => by cases h
  | n + 1, 0, .tup xs, h, l => by omega
  | n + 1, 0, .lst xs, h, l => by omega
  | n + 1, m + 1, .tup xs, h, l => by
    have h' : xs.all (dOk n) = true := h
    show xs.all (dOk m) = true
    exact List.all_eq_true.mpr fun x hx => dOk_mono (List.all_eq_true.mp h' x hx) (Nat.le_of_succ_le_succ l)
  | n + 1, m + 1, .lst xs, h, l => by
    have h' : xs.all (dOk n) = true := h
    show xs.all (dOk m) = true
    exact List.all_eq_true.mpr fun x hx => dOk_mono (List.all_eq_true.mp h' x hx) (Nat.le_of_succ_le_succ l)
  | n, _, .dct _, h, _ => by cases n <;> cases h
  | n, _, .dmt _ _, h, _ => by cases n <;> cases h
  | n, _, .ref _, h, _ => by cases n <;> cases h
  | n, _, .ty _, h, _ => by cases n <;> cases h
section
variable {K : PySem.W.Frag} {H : Hp}
mutual
theorem Rep.dp : ∀ {n : Nat} {d : D} {v : V}, Rep K H d v → dOk n d = true → Dp K H v d.py
  | _, _, _, .non, _ => .non
  | _, _, _, .bl b, _ => .bl b
  | _, _, _, .int i, _ => .int i
  | _, _, _, .str x, _ => .str x
  | 0, _, _, .tup _ _ _, h => by cases h
  | 0, _, _, .lst _ _ _, h => by cases h
  | n + 1, _, _, .tup hs _ l, h => .tup hs (RepL.dp (n := n) l h)
  | n + 1, _, _, .lst hs _ l, h => .lst hs.seq (RepL.dp (n := n) l h)
  | n, _, _, .ref _, h => by cases n <;> cases h
  | n, _, _, .ty _, h => by cases n <;> cases h
  | n, _, _, .dct _ _ _, h => by cases n <;> cases h
  | n, _, _, .dmt _ _ _, h => by cases n <;> cases h
theorem RepL.dp : ∀ {n : Nat} {ds : List D} {vs : List V}, RepL K H ds vs → ds.all (dOk n) = true → DpAll K H vs (D.pys ds)
  | _, _, _, .nil, _ => .nil
  | n, _, _, .cons r l, h => by
    rw [List.all_cons, Bool.and_eq_true] at h
    exact .cons (Rep.dp (n := n) r h.1) (RepL.dp (n := n) l h.2)
end
end
/-- == is identity where no truth value stands -/
def nobl : D → Bool
  | .bl _ => false
  | .tup xs => nobls xs
  | .lst xs => nobls xs
  | _ => true
where nobls : List D → Bool
  | [] => true
  | x :: xs => nobl x && nobls xs

/-! ### operators on data -/
section
variable {X : Cx}
def dEq : DR2 := fun x y M Q => (dOk 64 x = true ∧ dOk 64 y = true) ∧ Q (.bl (D.eqv x y)) M
def dNe : DR2 := fun x y M Q => (dOk 64 x = true ∧ dOk 64 y = true) ∧ Q (.bl (!D.eqv x y)) M
theorem o_eq (hu : X.A.units + 64 < cLine) : DOp X (compareOp .Eq) dEq := by
  intro pins s σ H x y v u Q I rx ry ⟨d, e, M, Q', r1, r2, m, ⟨⟨h1, h2⟩, q⟩, k⟩
  exact op_eqD hu pins s σ H x y v u Q I rx ry ⟨_, _, r1.dp h1, r2.dp h2, dOk_shaped h1 (Nat.le_refl _), dOk_shaped h2 (Nat.le_refl _), k _ _ M H (.refl H) (.bl _) m q⟩
theorem o_ne (hu : X.A.units + 64 < cLine) : DOp X (compareOp .NotEq) dNe := by
  intro pins s σ H x y v u Q I rx ry ⟨d, e, M, Q', r1, r2, m, ⟨⟨h1, h2⟩, q⟩, k⟩
  exact op_neD hu pins s σ H x y v u Q I rx ry ⟨_, _, r1.dp h1, r2.dp h2, dOk_shaped h1 (Nat.le_refl _), dOk_shaped h2 (Nat.le_refl _), k _ _ M H (.refl H) (.bl _) m q⟩
def D.isN : D → Bool
  | .non => true
  | _ => false
theorem Rep.isN {K : PySem.W.Frag} {H : Hp} {d : D} {v : V} (r : Rep K H d v) : decide (v = .non) = d.isN := by
  cases r <;> simp [D.isN]
def dIs : DR2 := fun x y M Q => y = .non ∧ Q (.bl x.isN) M
def dIsNot : DR2 := fun x y M Q => y = .non ∧ Q (.bl (!x.isN)) M
theorem o_is : DOp X (compareOp .Is) dIs := by
  intro pins s σ H x y v u Q I rx ry ⟨d, e, M, Q', r1, r2, m, ⟨h1, q⟩, k⟩
  subst h1
  cases r2
  exact op_isN pins s σ H x _ v u Q I rx ry ⟨rfl, by rw [r1.isN]; exact k _ _ M H (.refl H) (.bl _) m q⟩
theorem o_isnot : DOp X (compareOp .IsNot) dIsNot := by
  intro pins s σ H x y v u Q I rx ry ⟨d, e, M, Q', r1, r2, m, ⟨h1, q⟩, k⟩
  subst h1
  cases r2
  exact op_notN pins s σ H x _ v u Q I rx ry ⟨rfl, by rw [r1.isN]; exact k _ _ M H (.refl H) (.bl _) m q⟩
/-- x in a list or tuple of data -/
def dIn : DR2 := fun x y M Q => ∃ ys, dItems y M = some ys ∧ (dOk 63 x = true ∧ ys.all (dOk 63) = true) ∧ Q (.bl (ys.any fun z => D.eqv z x)) M
def dNotIn : DR2 := fun x y M Q => ∃ ys, dItems y M = some ys ∧ (dOk 63 x = true ∧ ys.all (dOk 63) = true) ∧ Q (.bl (!ys.any fun z => D.eqv z x)) M
theorem any_pys (x : D) : ∀ ys : List D, (D.pys ys).any (fun z => PyData.eqv z x.py) = ys.any fun z => D.eqv z x
  | [] => rfl
  | y :: ys => by
    rw [D.pys, List.any_cons, List.any_cons, any_pys x ys]
    rfl
theorem o_in (hu : X.A.units + 65 < cLine) : DOp X (compareOp .In) dIn := by
  intro pins s σ H x y v u Q I rx ry ⟨d, e, M, Q', r1, r2, m, ⟨ys, h1, ⟨h2, h3⟩, q⟩, k⟩
  have hs : SeqAt.shaped (PyData.list (D.pys ys)) = true := dOk_shaped (n := 64) (d := .lst ys) h3 (Nat.le_refl _)
  have hst : SeqAt.shaped (PyData.tuple (D.pys ys)) = true := dOk_shaped (n := 64) (d := .tup ys) h3 (Nat.le_refl _)
  have hx := dOk_shaped h2 (by decide)
  have fin := k _ _ M H (.refl H) (.bl _) m q
  rw [← any_pys] at fin
  obtain ⟨a, vs, rfl, z, l, ⟨h4, _⟩ | ⟨h4, _⟩⟩ := items_of r2 m h1
  · exact op_inD hu pins s σ H x _ v u Q I rx ry ⟨_, _, r1.dp h2, .lst h4 (l.dp h3), hx, hs, fin⟩
  · obtain ⟨as, q1⟩ := Dp.reads I _ x v (r1.dp h2) rx
    obtain ⟨bs, q2⟩ := Dp.reads I (.tuple (D.pys ys)) _ u (.tup h4 (l.dp h3)) ry
    exact SeqAt.in_tuple_reads q2 q1 (SeqAt.canLay_of_shaped hst) (SeqAt.canLay_of_shaped hx) (room_in_shaped hx hu) ⟨.bl _, H, I, rfl, fin⟩
theorem o_notin (hu : X.A.units + 65 < cLine) : DOp X (compareOp .NotIn) dNotIn := by
  intro pins s σ H x y v u Q I rx ry ⟨d, e, M, Q', r1, r2, m, ⟨ys, h1, ⟨h2, h3⟩, q⟩, k⟩
  have hs : SeqAt.shaped (PyData.list (D.pys ys)) = true := dOk_shaped (n := 64) (d := .lst ys) h3 (Nat.le_refl _)
  have hst : SeqAt.shaped (PyData.tuple (D.pys ys)) = true := dOk_shaped (n := 64) (d := .tup ys) h3 (Nat.le_refl _)
  have hx := dOk_shaped h2 (by decide)
  have fin := k _ _ M H (.refl H) (.bl _) m q
  rw [← any_pys] at fin
  obtain ⟨a, vs, rfl, z, l, ⟨h4, _⟩ | ⟨h4, _⟩⟩ := items_of r2 m h1
  · exact op_notInD hu pins s σ H x _ v u Q I rx ry ⟨_, _, r1.dp h2, .lst h4 (l.dp h3), hx, hs, fin⟩
  · obtain ⟨as, q1⟩ := Dp.reads I _ x v (r1.dp h2) rx
    obtain ⟨bs, q2⟩ := Dp.reads I (.tuple (D.pys ys)) _ u (.tup h4 (l.dp h3)) ry
    exact SeqAt.notIn_tuple_reads q2 q1 (SeqAt.canLay_of_shaped hst) (SeqAt.canLay_of_shaped hx) (room_in_shaped hx hu) ⟨.bl _, H, I, rfl, fin⟩
/-- xs[i] -/
def dIx : DR2 := fun x y M Q => ∃ xs i d, dItems x M = some xs ∧ y = .int i ∧ atI xs i = some d ∧ Q d M
theorem atI_rep {K : PySem.W.Frag} {H : Hp} {ds : List D} {vs : List V} {i : Int} {d : D} (l : RepL K H ds vs) (h : atI ds i = some d) : ∃ v, atI vs i = some v ∧ Rep K H d v := by
  unfold atI at h ⊢
  rw [← l.length]
  cases q : ixN ds.length i with
  | none => rw [q] at h; cases h
  | some j =>
    rw [q] at h
    exact l.get h
theorem x_ix : IxR X (upR2 X.K dIx) := by
  intro value slice pins s σ H x y v u Q I rx ry ⟨d, e, M, Q', r1, r2, m, ⟨xs, i, z, h1, h2, h3, q⟩, k⟩ hop
  subst h2
  cases r2
  obtain ⟨a, vs, rfl, zz, l, h⟩ := items_of r1 m h1
  obtain ⟨w, h4, h5⟩ := atI_rep l h3
  have fin := k _ _ M H (.refl H) h5 m q
  rcases h with ⟨h6, _⟩ | ⟨h6, _⟩
  · exact ix_list value slice pins s σ H _ _ v u Q I rx ry ⟨a, vs, i, w, rfl, rfl, h6, h4, fin⟩ hop
  · exact ix_tup value slice pins s σ H _ _ v u Q I rx ry ⟨a, vs, i, w, rfl, rfl, h6, h4, fin⟩ hop
theorem d_ix {r : DR2} {a b : Expr} {ta tb : DTE} {pos : Pos} (hr : IxR X (upR2 X.K r)) (ha : DE X a ta) (hb : DE X b tb) (hs : PlainIx b) : DE X (.Subscript a b pos) (dOp r ta tb) :=
  imE (pe_ix hr ha hb hs) fun σ H Q h => up_op (σ := σ) (H := H) (Q := Q) h
/-- -x -/
def dUn (r : D → DM → DVK → Prop) (ta : DTE) : DTE := fun m M Q => ta m M fun x M1 => r x M1 Q
def dNegI : D → DM → DVK → Prop := fun x M Q => ∃ i, x = .int i ∧ Q (.int (-i)) M
theorem d_neg {a : Expr} {ta : DTE} {pos : Pos} (ha : DE X a ta) : DE X (.UnaryOp .USub a pos) (dUn dNegI ta) :=
  imE (pe_un un_neg ha) fun σ H Q ⟨m, M, Q', r, q, k⟩ => by
    refine ⟨m, M, _, r, q, fun d v M1 H1 g1 r1 m1 ⟨i, e, q1⟩ => ?_⟩
    subst e
    cases r1
    exact ⟨i, rfl, k _ _ M1 H1 g1 (.int _) m1 q1⟩

/-! ### built-ins -/
def dLenOf : D → DM → Option Nat
  | .tup xs, _ => some xs.length
  | .lst xs, _ => some xs.length
  | .ref a, M => match M a with
    | some (.lst xs) => some xs.length
    | _ => none
  | .str z, _ => if z.length ≤ sizeLine then some z.length else none
  | _, _ => none
theorem dLenOf_ref {xs : List D} {M : DM} {a : Addr} (h : M a = some (.lst xs)) : dLenOf (.ref a) M = some xs.length := by
  simp [dLenOf, h]
def rLen : DCR := fun ds M Q => ∃ d n, ds = [d] ∧ dLenOf d M = some n ∧ Q (.int n) M
theorem len_items {d : D} {M : DM} {xs : List D} (h : dItems d M = some xs) : dLenOf d M = some xs.length := by
  cases d with
  | tup ys => cases h; rfl
  | lst ys => cases h; rfl
  | ref a =>
    have h' : (match M a with | some (.lst xs) => some xs | _ => none) = some xs := h
    show (match M a with | some (.lst xs) => some xs.length | _ => none) = some xs.length
    cases q : M a with
    | none => rw [q] at h'; cases h'
    | some o =>
      rw [q] at h'
      cases o with
      | lst ys => cases h'; rfl
      | dct _ _ => cases h'
      | tab _ => cases h'
      | dk _ => cases h'
  | _ => cases h
theorem c_len : DCall X (.builtin "len") rLen := by
  intro pins s σ H vs us Q I r ⟨ds, M, Q', l, m, ⟨d, n, e, h, q⟩, k⟩
  subst e
  obtain ⟨v, e, rv⟩ := repL_one l
  subst e
  have fin := k _ _ M H (.refl H) (.int _) m q
  cases hs : dItems d M with
  | some xs =>
    have e := len_items hs
    rw [h] at e
    cases e
    obtain ⟨a, ws, rfl, z, l, ⟨h4, _⟩ | ⟨h4, _⟩⟩ := items_of rv m hs
    · exact call_len_seq pins s σ H _ us Q I r ⟨a, ws, rfl, .inl h4, by rw [← l.length]; exact fin⟩
    · exact call_len_seq pins s σ H _ us Q I r ⟨a, ws, rfl, .inr h4, by rw [← l.length]; exact fin⟩
  | none =>
    cases rv with
    | str z =>
      by_cases hz : z.length ≤ sizeLine
      · have e : some z.length = some n := by
          rw [← h]
          simp [dLenOf, hz]
        cases e
        exact call_len_str pins s σ H _ us Q I r ⟨z, rfl, hz, fin⟩
      · simp [dLenOf, hz] at h
    | tup => cases hs
    | lst => cases hs
    | ref a =>
      have hs' : (match M a with | some (.lst xs) => some xs | _ => none) = none := hs
      have h' : (match M a with | some (.lst xs) => some xs.length | _ => none) = some n := h
      cases q : M a with
      | none => rw [q] at h'; cases h'
      | some o =>
        rw [q] at h' hs'
        cases o with
        | lst ys => cases hs'
        | dct _ _ => cases h'
        | tab _ => cases h'
        | dk _ => cases h'
    | _ => cases h
/-- .. with what is known of a list's length -/
def rLenB : DCR := fun ds M Q => ∃ d xs, ds = [d] ∧ dItems d M = some xs ∧ (xs.length ≤ 16777216 → Q (.int xs.length) M)
theorem c_lenB : DCall X (.builtin "len") rLenB := by
  intro pins s σ H vs us Q I r ⟨ds, M, Q', l, m, ⟨d, xs, e, h, q⟩, k⟩
  subst e
  obtain ⟨v, e, rv⟩ := repL_one l
  subst e
  obtain ⟨a, ws, _, z, l2, _⟩ := items_of rv m h
  have hz : xs.length ≤ 16777216 := by
    rw [l2.length]
    rw [sizeLine_eq] at z
    exact z
  exact c_len pins s σ H _ us Q I r ⟨[d], M, Q', l, m, ⟨d, _, rfl, len_items h, q hz⟩, k⟩
def rAbs : DCR := fun ds M Q => ∃ i : Int, ds = [.int i] ∧ Q (.int (if i < 0 then -i else i)) M
theorem c_abs : DCall X (.builtin "abs") rAbs := by
  intro pins s σ H vs us Q I r ⟨ds, M, Q', l, m, ⟨i, e, q⟩, k⟩
  subst e
  obtain ⟨v, e, rv⟩ := repL_one l
  subst e
  cases rv
  exact call_abs pins s σ H _ us Q I r ⟨i, rfl, k _ _ M H (.refl H) (.int _) m q⟩
def rMax2 : DCR := fun ds M Q => ∃ i j : Int, ds = [.int i, .int j] ∧ Q (.int (if j > i then j else i)) M
def rMin2 : DCR := fun ds M Q => ∃ i j : Int, ds = [.int i, .int j] ∧ Q (.int (if j < i then j else i)) M
theorem c_max2 (hc : X.calm = true) : DCall X (.builtin "max") rMax2 := by
  intro pins s σ H vs us Q I r ⟨ds, M, Q', l, m, ⟨i, j, e, q⟩, k⟩
  subst e
  obtain ⟨v, w, e, rv, rw'⟩ := repL_two l
  subst e
  cases rv
  cases rw'
  exact call_max2 hc pins s σ H _ us Q I r ⟨i, j, rfl, k _ _ M H (.refl H) (.int _) m q⟩
theorem c_min2 (hc : X.calm = true) : DCall X (.builtin "min") rMin2 := by
  intro pins s σ H vs us Q I r ⟨ds, M, Q', l, m, ⟨i, j, e, q⟩, k⟩
  subst e
  obtain ⟨v, w, e, rv, rw'⟩ := repL_two l
  subst e
  cases rv
  cases rw'
  exact call_min2 hc pins s σ H _ us Q I r ⟨i, j, rfl, k _ _ M H (.refl H) (.int _) m q⟩
def dIntOf : D → Option Int
  | .int i => some i
  | .bl b => some (if b then 1 else 0)
  | _ => none
def rInt : DCR := fun ds M Q => ∃ d i, ds = [d] ∧ dIntOf d = some i ∧ Q (.int i) M
theorem c_int : DCall X (.type "int") rInt := by
  intro pins s σ H vs us Q I r ⟨ds, M, Q', l, m, ⟨d, i, e, h, q⟩, k⟩
  subst e
  obtain ⟨v, e, rv⟩ := repL_one l
  subst e
  have fin := k _ _ M H (.refl H) (.int _) m q
  cases rv with
  | int j =>
    cases h
    exact call_int1 pins s σ H _ us Q I r (.inl ⟨_, rfl, fin⟩)
  | bl b =>
    cases h
    exact call_int1 pins s σ H _ us Q I r (.inr ⟨b, rfl, fin⟩)
  | _ => cases h
def rGcd : DCR := fun ds M Q => ∃ i j : Int, ds = [.int i, .int j] ∧ Q (.int ((Nat.gcd i.natAbs j.natAbs : Nat) : Int)) M
theorem c_gcd : DCall X (.builtin "math.gcd") rGcd := by
  intro pins s σ H vs us Q I r ⟨ds, M, Q', l, m, ⟨i, j, e, q⟩, k⟩
  subst e
  obtain ⟨v, w, e, rv, rw'⟩ := repL_two l
  subst e
  cases rv
  cases rw'
  exact cr_gcd pins s σ H _ us Q I r ⟨i, j, rfl, k _ _ M H (.refl H) (.int _) m q⟩
/-- tuple(x), list(x) -/
def rTuple : DCR := fun ds M Q => ∃ d xs, ds = [d] ∧ dItems d M = some xs ∧ Q (.tup xs) M
theorem c_tuple : DCall X (.type "tuple") rTuple := by
  intro pins s σ H vs us Q I r ⟨ds, M, Q', l, m, ⟨d, xs, e, h, q⟩, k⟩
  subst e
  obtain ⟨v, e, rv⟩ := repL_one l
  subst e
  obtain ⟨a, ws, rfl, z, l, ⟨h4, _⟩ | ⟨h4, h5⟩⟩ := items_of rv m h
  · exact call_tuple_of pins s σ H _ us Q I r ⟨a, ws, rfl, .inl ⟨h4, fun p hp => k _ _ M _ (.new hp) (.tup (.of upd_same) z (l.grow (.new hp))) (m.new hp) q⟩⟩
  · subst h5
    exact call_tuple_of pins s σ H _ us Q I r ⟨a, ws, rfl, .inr ⟨h4, k _ _ M H (.refl H) rv m q⟩⟩
def rList : DCR := fun ds M Q => ∃ d xs, ds = [d] ∧ dItems d M = some xs ∧ ∀ p, M p = none → Q (.ref p) (mput M p (.lst xs))
theorem c_list : DCall X (.type "list") rList := by
  intro pins s σ H vs us Q I r ⟨ds, M, Q', l, m, ⟨d, xs, e, h, q⟩, k⟩
  subst e
  obtain ⟨v, e, rv⟩ := repL_one l
  subst e
  obtain ⟨a, ws, rfl, z, l, h4⟩ := items_of rv m h
  refine call_list_of pins s σ H _ us Q I r ⟨a, ws, rfl, h4.elim (fun y => .inl y.1) fun y => .inr y.1, fun p hp => ?_⟩
  exact k _ _ _ _ (.new hp) (.ref p) (m.newLst hp z l) (q p (m.free hp))
/-- isinstance -/
def dTyN : D → DM → Option String
  | .non, _ => some "NoneType"
  | .bl _, _ => some "bool"
  | .int _, _ => some "int"
  | .str _, _ => some "str"
  | .tup _, _ => some "tuple"
  | .lst _, _ => some "list"
  | .dct _, _ => some "dict"
  | .ref a, M => match M a with
    | some (.lst _) => some "list"
    | some (.dk _) => some "dict"
    | _ => none
  | _, _ => none
theorem ty_of {K : PySem.W.Frag} {H : Hp} {M : DM} {d : D} {v : V} {n : String} (r : Rep K H d v) (m : RM K H M) (h : dTyN d M = some n) : TyX K H v (.type n) := by
  cases r with
  | non => cases h; exact .base .non
  | bl b => cases h; exact .base (.bl b)
  | int i => cases h; exact .base (.int i)
  | str x => cases h; exact .base (.str x)
  | tup hs _ _ =>
    cases h
    rcases hs with (h | ⟨o, h⟩) | ⟨o, _, _, h1, h2, _⟩
    · exact .base (.tup h)
    · exact .fTuple h
    · exact .kTuple h1 h2
  | lst hs _ _ =>
    cases h
    rcases hs with ⟨o, h⟩ | ⟨o, _, _, h1, h2, _⟩
    · exact .base (.frz h)
    · exact .kList h1 h2
  | ref a =>
    have h' : (match M a with | some (.lst _) => some "list" | some (.dk _) => some "dict" | _ => none) = some n := h
    cases q : M a with
    | none => rw [q] at h'; cases h'
    | some o =>
      rw [q] at h'
      cases o with
      | lst ys =>
        cases h'
        obtain ⟨vs, h1, _⟩ := m.lst q
        exact .base (.lst h1)
      | dct _ _ => cases h'
      | tab _ => cases h'
      | dk kvs =>
        cases h'
        obtain ⟨es, h1, _⟩ := m a _ q
        exact .base (.dK h1)
  | ty _ => cases h
  | dct hd _ _ =>
    cases h
    exact .fDict hd
  | dmt hd _ _ => cases h
/-- the types that stand here -/
def subT (a b : String) : Bool := a == b || (a == "bool" && b == "int")
def knownT (a : String) : Bool := a == "NoneType" || a == "bool" || a == "int" || a == "str" || a == "tuple" || a == "list" || a == "dict"
theorem kit_sub {a b : String} (ha : knownT a = true) (hb : knownT b = true) : kitB a b = some (subT a b) := by
  simp only [knownT, Bool.or_eq_true, beq_iff_eq] at ha hb
  rcases ha with (((((h | h) | h) | h) | h) | h) | h <;> subst h <;> rcases hb with (((((h | h) | h) | h) | h) | h) | h <;> subst h <;> decide +kernel
theorem tyN_known {d : D} {M : DM} {n : String} (h : dTyN d M = some n) : knownT n = true := by
  cases d with
  | ref a =>
    have h' : (match M a with | some (.lst _) => some "list" | some (.dk _) => some "dict" | _ => none) = some n := h
    cases q : M a with
    | none => rw [q] at h'; cases h'
    | some o =>
      rw [q] at h'
      cases o with
      | lst ys => cases h'; decide
      | dct _ _ => cases h'
      | tab _ => cases h'
      | dk _ => cases h'; decide
  | dct _ => cases h; decide
  | dmt _ _ => cases h
  | ty _ => cases h
  | _ => cases h; decide
def rIs : DCR := fun ds M Q => ∃ d T n, ds = [d, .ty T] ∧ knownT T = true ∧ dTyN d M = some n ∧ Q (.bl (subT n T)) M
theorem c_is : DCall X (.builtin "isinstance") rIs := by
  intro pins s σ H vs us Q I r ⟨ds, M, Q', l, m, ⟨d, T, n, e, hT, h, q⟩, k⟩
  subst e
  obtain ⟨v, w, e, rv, rw'⟩ := repL_two l
  subst e
  cases rw'
  exact call_isi pins s σ H _ us Q I r ⟨v, _, _, _, subT n T, rfl, .ty T, ty_of rv m h, kit_ty (kit_sub (tyN_known h) hT), k _ _ M H (.refl H) (.bl _) m q⟩
def tyNames : List D → Option (List String)
  | [] => some []
  | .ty T :: r => (tyNames r).map (T :: ·)
  | _ => none
theorem tyNames_map : ∀ {cs : List D} {Ts : List String}, tyNames cs = some Ts → cs = Ts.map D.ty
  | [], Ts, h => by
    cases h
    rfl
  | .ty T :: r, Ts, h => by
    have h' : (tyNames r).map (T :: ·) = some Ts := h
    cases q : tyNames r with
    | none => rw [q] at h'; cases h'
    | some Us =>
      rw [q] at h'
      cases h'
      rw [tyNames_map q]
      rfl
  | .non :: _, _, h => by cases h
  | .bl _ :: _, _, h => by cases h
  | .int _ :: _, _, h => by cases h
  | .str _ :: _, _, h => by cases h
  | .tup _ :: _, _, h => by cases h
  | .lst _ :: _, _, h => by cases h
  | .dct _ :: _, _, h => by cases h
  | .dmt _ _ :: _, _, h => by cases h
  | .ref _ :: _, _, h => by cases h
def rIsT : DCR := fun ds M Q => ∃ (d : D) (cs : List D) (Ts : List String) (n : String), ds = [d, .tup cs] ∧ tyNames cs = some Ts ∧ Ts.all knownT = true ∧ dTyN d M = some n ∧ Q (.bl (Ts.any (subT n))) M
theorem kit_any {K : PySem.W.Frag} {n : String} (hn : knownT n = true) : ∀ {Ts : List String}, Ts.all knownT = true → PySem.W.kitAny K (.type n) (Ts.map Value.type) = some (Ts.any (subT n))
  | [], _ => kitAny_nil
  | T :: Ts, h => by
    rw [List.all_cons, Bool.and_eq_true] at h
    refine kitAny_cons (kit_ty (kit_sub hn h.1)) (fun e => ?_) fun e => ?_
    · rw [List.any_cons, e, Bool.false_or]
      exact kit_any hn h.2
    · rw [List.any_cons, e, Bool.true_or]
theorem ty_vals {K : PySem.W.Frag} {H : Hp} : ∀ {Ts : List String} {vs : List V} {its : List Value}, RepL K H (Ts.map D.ty) vs → Vals vs its → its = Ts.map Value.type
  | [], _, _, l, r => by
    cases l
    cases r
    rfl
  | T :: Ts, _, _, l, r => by
    cases l with
    | cons h t =>
      cases h
      cases r with
      | cons h2 t2 =>
        rw [ty_vals t t2, show _ = Value.type T from h2]
        rfl
theorem c_isT : DCall X (.builtin "isinstance") rIsT := by
  intro pins s σ H vs us Q I r ⟨ds, M, Q', l, m, ⟨d, cs, Ts, n, e, e0, hT, h, q⟩, k⟩
  subst e
  obtain ⟨v, w, e, rv, rw'⟩ := repL_two l
  subst e
  rw [tyNames_map e0] at rw'
  cases rw' with
  | tup hs _ l2 =>
    obtain ⟨u1, u2, rfl, r1, r2⟩ := vals2 r
    cases r2
    obtain ⟨P, Z, p, hx⟩ := kit_of I r1 (ty_of rv m h)
    obtain ⟨its, rr, ⟨⟨oc, od, dt, sl⟩, h1, h2, n', h3⟩, _⟩ := I.tuple hs
    simp only at h2 h3
    subst h2 h3
    have e3 := ty_vals l2 rr
    exact PySem.W.kia_tup Z I.kIn p h1 (by
      simp only [e3]
      exact kit_any (tyN_known h) hT) hx fun tk => ⟨.bl _, H, I.tok tk, rfl, k _ _ M H (.refl H) (.bl _) m q⟩
/-- both forms of isinstance -/
theorem DCall.or {f : Value} {r r' : DCR} (h : DCall X f r) (h' : DCall X f r') : DCall X f (fun ds M Q => r ds M Q ∨ r' ds M Q) := by
  intro pins s σ H vs us Q I rv z
  obtain ⟨ds, M, Q', l, m, q | q, k⟩ := z
  · exact h pins s σ H vs us Q I rv ⟨ds, M, Q', l, m, q, k⟩
  · exact h' pins s σ H vs us Q I rv ⟨ds, M, Q', l, m, q, k⟩
/-- a built-in type as a value -/
theorem d_ty {x : Str} {T : String} {pos : Pos} (hg : Gl X x) (hm : X.mg x = none) (hv : bootBuiltins x = some (.type T)) (hn : x ≠ "__name__" := by decide) (hd : (x == ("__debug__" : Str)) = false := by decide) : DE X (.Name x pos) (dC (.ty T)) :=
  d_c (v := .ty T) (pe_bltn hg hm hv rfl hn hd) fun _ _ => .ty T
/-- a module's constant -/
theorem d_gl {x : Str} {u : Value} {v : V} {d : D} {pos : Pos} (hg : Gl X x) (hm : X.mg x = some u) (rv : RelV v u) (hr : ∀ K H, Rep K H d v) (hd : (x == ("__debug__" : Str)) = false := by decide) : DE X (.Name x pos) (dC d) :=
  d_c (pe_glob hg hm rv hd) hr

/-! ### methods of lists -/
variable {o e : Expr} {es : List Expr} {to : DTE} {t : DTA} {name : Str} {apos cpos : Pos} {id : String}
abbrev DMR := D → List D → DM → DVK → Prop
def upM (K : PySem.W.Frag) (dr : DMR) : V → List V → Hp → VK → Prop := fun x vs H Q => ∃ d ds M Q', Rep K H d x ∧ RepL K H ds vs ∧ RM K H M ∧ dr d ds M Q' ∧
  ∀ d v M' H', Grow H H' → Rep K H' d v → RM K H' M' → Q' d M' → Q v H'
def dMt0 (dr : DMR) (to : DTE) : DTE := fun m M Q => to m M fun d M1 => (∃ xs, dItems d M1 = some xs ∧ d ≠ .tup xs) ∧ dr d [] M1 Q
def dMt (dr : DMR) (to : DTE) (t : DTA) : DTE := fun m M Q => to m M fun d M1 => (∃ xs, dItems d M1 = some xs ∧ d ≠ .tup xs) ∧ t m M1 fun ds M2 => dr d ds M2 Q
theorem tyV_lst {K : PySem.W.Frag} {H : Hp} {M : DM} {d : D} {v : V} (r : Rep K H d v) (m : RM K H M) (h : ∃ xs, dItems d M = some xs ∧ d ≠ .tup xs) : tyV K "list" v H := by
  obtain ⟨xs, h1, h2⟩ := h
  obtain ⟨a, vs, rfl, z, l, ⟨h4, _⟩ | ⟨_, h5⟩⟩ := items_of r m h1
  · exact .inl ⟨rfl, vs, h4⟩
  · exact absurd h5 h2
theorem d_mt0 {dr : DMR} (slot : Slot "list" name id) (hty : typeOf (.builtin id) = pure (.type "method_descriptor")) (hm : MtR X id (upM X.K dr)) (ho : DE X o to)
    (hbase : attributeBase o name X.env (eval o X.env) = eval o X.env := by rfl) (hline : (apos.endLine == cpos.line) = true := by rfl) : DE X (.Call (.Attribute o name apos) [] [] cpos) (dMt0 dr to) :=
  imE (pe_bm0 PySem.F.plainAttrs_list slot hty hm ho hbase hline) fun σ H Q ⟨m, M, Q', r, q, k⟩ => by
    refine ⟨m, M, _, r, q, fun d v M1 H1 g1 r1 m1 ⟨ty, q1⟩ => ⟨tyV_lst r1 m1 ty, d, [], M1, Q', r1, .nil, m1, q1, fun d v M2 H2 g2 => k d v M2 H2 (g1.trans g2)⟩⟩
theorem d_mt {dr : DMR} (slot : Slot "list" name id) (hty : typeOf (.builtin id) = pure (.type "method_descriptor")) (hm : MtR X id (upM X.K dr)) (ho : DE X o to) (ha : DA X (e :: es) t)
    (hbase : attributeBase o name X.env (eval o X.env) = eval o X.env := by rfl)
    (hfew : ((backTo cpos (starEach (e :: es) X.env)).all (fun x => !x.1) && (backToKw cpos (keywordEach [] X.env)).all (fun x => x.1.isSome)
      && decide ((e :: es).length + ([] : List Keyword).length + (if ([] : List Keyword).isEmpty then 0 else 1) < 30)) = true := by rfl)
    (hline : (apos.endLine == cpos.line) = true := by rfl) (hs : starEach (e :: es) X.env = (false, eval e X.env) :: starEach es X.env := by rfl) (hplain : (backTo cpos (starEach es X.env)).any (·.1) = false := by rfl) :
    DE X (.Call (.Attribute o name apos) (e :: es) [] cpos) (dMt dr to t) :=
  imE (pe_bm PySem.F.plainAttrs_list slot hty hm ho ha hbase hfew hline hs hplain) fun σ H Q ⟨m, M, Q', r, q, k⟩ => by
    refine ⟨m, M, _, r, q, fun d v M1 H1 g1 r1 m1 ⟨ty, q1⟩ => ⟨tyV_lst r1 m1 ty, m, M1, _, r.grow g1 m1, q1, fun ds vs M2 H2 g2 l2 m2 q2 => ?_⟩⟩
    exact ⟨d, ds, M2, Q', r1.grow g2, l2, m2, q2, fun d v M3 H3 g3 => k d v M3 H3 ((g1.trans g2).trans g3)⟩
def mAppend : DMR := fun d ds M Q => ∃ a xs y, d = .ref a ∧ ds = [y] ∧ M a = some (.lst xs) ∧ xs.length < sizeLine ∧ Q .non (mput M a (.lst (xs ++ [y])))
theorem m_append : MtR X "list.append" (upM X.K mAppend) := by
  intro pins s σ H x vs v us Q I rx rv ⟨d, ds, M, Q', r1, l, m, ⟨a, xs, y, e1, e2, h, hz, q⟩, k⟩
  subst e1
  subst e2
  cases r1
  obtain ⟨w, e, rw'⟩ := repL_one l
  subst e
  obtain ⟨ws, h1, z, l1⟩ := m.lst h
  refine mt_append pins s σ H _ _ v us Q I rx rv ⟨a, ws, w, rfl, rfl, h1, by rw [← l1.length]; exact hz, ?_⟩
  exact k _ _ _ _ (.put h1) .non (m.putLst h1 (by rw [List.length_append, ← l1.length]; exact hz) (l1.append (.one rw'))) q
def mPop : DMR := fun d ds M Q => ∃ a xs y, d = .ref a ∧ ds = [] ∧ M a = some (.lst xs) ∧ xs.getLast? = some y ∧ Q y (mput M a (.lst xs.dropLast))
theorem m_pop : MtR X "list.pop" (upM X.K mPop) := by
  intro pins s σ H x vs v us Q I rx rv ⟨d, ds, M, Q', r1, l, m, ⟨a, xs, y, e1, e2, h, hy, q⟩, k⟩
  subst e1
  subst e2
  cases r1
  cases l
  obtain ⟨ws, h1, z, l1⟩ := m.lst h
  rw [List.getLast?_eq_getElem?] at hy
  obtain ⟨w, h2, h3⟩ := l1.get hy
  rw [l1.length] at h2
  refine mt_pop pins s σ H _ _ v us Q I rx rv ⟨a, ws, w, rfl, rfl, h1, h2, ?_⟩
  exact k _ _ _ _ (.put h1) (h3.grow (.put h1)) (m.putLst h1 (by rw [List.length_dropLast]; omega) l1.dropLast) q
def mReverse : DMR := fun d ds M Q => ∃ a xs, d = .ref a ∧ ds = [] ∧ M a = some (.lst xs) ∧ Q .non (mput M a (.lst xs.reverse))
theorem m_reverse : MtR X "list.reverse" (upM X.K mReverse) := by
  intro pins s σ H x vs v us Q I rx rv ⟨d, ds, M, Q', r1, l, m, ⟨a, xs, e1, e2, h, q⟩, k⟩
  subst e1
  subst e2
  cases r1
  cases l
  obtain ⟨ws, h1, z, l1⟩ := m.lst h
  refine mt_reverse pins s σ H _ _ v us Q I rx rv ⟨a, ws, rfl, rfl, h1, ?_⟩
  exact k _ _ _ _ (.put h1) .non (m.putLst h1 (by rw [List.length_reverse]; exact z) l1.reverse) q
/-- xs[i] = v -/
def upSt (K : PySem.W.Frag) (t : D → D → D → DM → (DM → Prop) → Prop) : TSet := fun o i v H Q => ∃ d e y M Q', Rep K H d o ∧ Rep K H e i ∧ Rep K H y v ∧ RM K H M ∧ t d e y M Q' ∧
  ∀ M' H', Grow H H' → RM K H' M' → Q' M' → Q H'
abbrev DSet (X : Cx) (t : D → D → D → DM → (DM → Prop) → Prop) : Prop := PSet X (upSt X.K t)
def dSetL : D → D → D → DM → (DM → Prop) → Prop := fun o i v M Q => ∃ a xs k j, o = .ref a ∧ i = .int k ∧ M a = some (.lst xs) ∧ ixN xs.length k = some j ∧ Q (mput M a (.lst (xs.set j v)))
theorem s_lst : DSet X dSetL := by
  intro pins s σ H o i v ov iv u Q I ro ri rv ⟨d, e, y, M, Q', r1, r2, r3, m, ⟨a, xs, kk, j, e1, e2, h, hj, q⟩, k⟩
  subst e1
  subst e2
  cases r1
  cases r2
  obtain ⟨ws, h1, z, l1⟩ := m.lst h
  refine set_list pins s σ H _ _ v ov iv u Q I ro ri rv ⟨a, ws, kk, j, rfl, rfl, h1, by rw [← l1.length]; exact hj, ?_⟩
  exact k _ _ (.put h1) (m.putLst h1 (by rw [List.length_set]; exact z) (l1.set j r3)) q
/-- o[i] = e -/
def dPut (te to ti : DTE) (t : D → D → D → DM → (DM → Prop) → Prop) : DTS := fun Z m M => te m M fun v M1 => to m M1 fun d M2 => ti m M2 fun i M3 => t d i v M3 fun M4 => Z.nx m M4
theorem ds_put {i e : Expr} {te ti : DTE} {pos pos' : Pos} {tt : D → D → D → DM → (DM → Prop) → Prop} (he : DE X e te) (ho : DE X o to) (hi : DE X i ti) (hs : DSet X tt)
    (ha : ∀ v, assign (.Subscript o i pos) X.env v = (do
      let ov ← holding [v] (eval o X.env)
      let iv ← holding [v, ov] (eval i X.env)
      standAt pos
      holding [v, ov, iv] (setItem ov iv v)
      release [v, ov, iv] []) := by intro _; rfl)
    (hsw : swapsWithSole [.Subscript o i pos] e pos'.line X.env = pure false := by rfl) (hw : swappedStores [.Subscript o i pos] e X.env = pure none := by rfl)
    (h1 : (assignEach [.Subscript o i pos] X.env).map (·.2) = [assign (.Subscript o i pos) X.env] := by rfl) : DS X (.Assign [.Subscript o i pos] e pos') (dPut te to ti tt) :=
  imS (ps_asg he (pg_sub ho hi hs ha) hsw hw h1) fun Z σ H ⟨m, M, Z', r, q, k⟩ => by
    refine ⟨m, M, _, r, q, fun v x M1 H1 g1 r1 m1 q1 => ?_⟩
    refine ⟨m, M1, _, r.grow g1 m1, q1, fun d y M2 H2 g2 r2 m2 q2 => ?_⟩
    refine ⟨m, M2, _, r.grow (g1.trans g2) m2, q2, fun i z M3 H3 g3 r3 m3 q3 => ?_⟩
    refine ⟨d, i, v, M3, _, r2.grow g3, r3, r1.grow (g2.trans g3), m3, q3, fun M4 H4 g4 m4 q4 => ?_⟩
    have g := (g1.trans g2).trans (g3.trans g4)
    exact k.nx m M4 σ H4 g (r.grow g m4) q4
end
end DL
namespace DL
open PySem PySem.Spec PyProof.Rows L2
section
variable {X : Cx} {elt tg iter : Expr} {ifs : List Expr} {scope : Scope} {own : List (Str × Nat)} {pos spos py : Pos} {t : DTI} {g : DTG} {tt : DTT} {te : DTE} {ws : List Nat} {y : Str} {i : Nat}
/-- name = [..] on one line -/
theorem ds_setLc (hc : X.calm = true) (hN : X.N.Nodup) (hy : X.N[i]? = some y) (hyl : X.env.scope.names.lookup y = some .local)
    (hsw : swapsWith (.ListComp elt [⟨tg, iter, ifs, 0⟩] scope pos) (some (.Name y py)) spos.line X.env = pure true) (hi : DI X tg iter t) (ok : BlkOk X.N X.env.scope scope own) (hsub : ∀ i ∈ ws, i ∈ own.map (·.2))
    (hg : ∀ (s : Shared) (H : Hp) (C : Addr) (cl : List (Str × Addr)) (fp : List Addr), DG (X.blk s H scope (compEnvC scope cl C X.env) fp) ws tg g)
    (ht : ∀ (s : Shared) (H : Hp) (C : Addr) (cl : List (Str × Addr)) (fp : List Addr), DPTs (X.blk s H scope (compEnvC scope cl C X.env) fp) ifs tt)
    (he : ∀ (s : Shared) (H : Hp) (C : Addr) (cl : List (Str × Addr)) (fp : List Addr), DE (X.blk s H scope (compEnvC scope cl C X.env) fp) elt te)
    (hs : ∀ x, foldedSetIterable iter X.env x = pure x := by intro _; rfl) : DS X (.Assign [.Name y py] (.ListComp elt [⟨tg, iter, ifs, 0⟩] scope pos) spos) (dSet i (dLc t g tt te (own.map (·.2)))) :=
  imS (ps_setLc hc hN hy hyl hsw hi ok hg ht he hs) fun Z σ H ⟨m, M, Z', r, q, k⟩ =>
    lc_up (Qf := fun p _ M2 => Z'.nx (m.set i (some (.ref p))) M2) hsub (fun p acc ws M2 H2 g2 m2 _ _ _ _ q2 => k.nx _ M2 _ H2 g2 ((r.grow g2 m2).set (.ref p)) q2) m M r q
/-- behind a statement slot i's list is frozen -/
theorem ps_after {st : Stmt} {t : TS} (i : Nat) (h : PS X st t) : PS X st (fun Z σ H => t { Z with nx := fun σ' H' => ∃ p vs, σ'[i]? = some (some (.ref p)) ∧ H' p = some (.lst vs) ∧ ∀ o, Z.nx σ' (upd H' p (.frz o (.lst vs))) } σ H) := by
  refine ⟨fun pins s σ H Z I q => thn (h.run pins s σ H _ I q) fun f s1 q1 => ?_⟩
  cases f with
  | next =>
    obtain ⟨σ', H', I', p, vs, _, e2, q2⟩ := q1
    obtain ⟨o, I2⟩ := inv_frz I' e2
    exact ⟨σ', _, I2, q2 o⟩
  | ret v => exact q1
  | brk => exact q1
  | cont => exact q1
theorem ds_setLcF (hc : X.calm = true) (hN : X.N.Nodup) (hy : X.N[i]? = some y) (hyl : X.env.scope.names.lookup y = some .local)
    (hsw : swapsWith (.ListComp elt [⟨tg, iter, ifs, 0⟩] scope pos) (some (.Name y py)) spos.line X.env = pure true) (hi : DI X tg iter t) (ok : BlkOk X.N X.env.scope scope own) (hsub : ∀ i ∈ ws, i ∈ own.map (·.2))
    (hg : ∀ (s : Shared) (H : Hp) (C : Addr) (cl : List (Str × Addr)) (fp : List Addr), DG (X.blk s H scope (compEnvC scope cl C X.env) fp) ws tg g)
    (ht : ∀ (s : Shared) (H : Hp) (C : Addr) (cl : List (Str × Addr)) (fp : List Addr), DPTs (X.blk s H scope (compEnvC scope cl C X.env) fp) ifs tt)
    (he : ∀ (s : Shared) (H : Hp) (C : Addr) (cl : List (Str × Addr)) (fp : List Addr), DE (X.blk s H scope (compEnvC scope cl C X.env) fp) elt te)
    (hs : ∀ x, foldedSetIterable iter X.env x = pure x := by intro _; rfl) (hil : i < X.N.length := by exact Nat.le_of_ble_eq_true rfl) : DS X (.Assign [.Name y py] (.ListComp elt [⟨tg, iter, ifs, 0⟩] scope pos) spos) (dSet i (dLcF t g tt te (own.map (·.2)))) := by
  refine ⟨fun pins s σ H Z I h => (ps_after i (ps_setLc (wi := upI X.K t) (g := upG X.K ws g) (tt := upT X.K tt) (te := upE X.K te) hc hN hy hyl hsw hi ok hg ht he hs)).run pins s σ H Z I ?_⟩
  obtain ⟨m, M, Z', r, q, k⟩ := h
  have hσ : i < σ.length := by rw [I.len]; exact hil
  refine lc_up (Qf := fun p acc M2 => Z'.nx (m.set i (some (.lst acc))) (mdel M2 p)) hsub (fun p acc ws M2 H2 g2 m2 h8 z8 l8 _ q2 => ?_) m M r q
  refine ⟨p, ws, List.getElem?_set_self hσ, h8, fun o => k.nx _ _ _ _ (g2.trans (.put h8)) ?_ q2⟩
  exact (r.grow (g2.trans (.put h8)) (m2.frz h8)).set (.lst (.inl ⟨o, upd_same⟩) z8 (l8.grow (.put h8)))
theorem mput_self {M : DM} {a : Addr} {o : DO} (h : M a = some o) : mput M a o = M := by
  funext b
  unfold mput
  split
  · next e => rw [e, h]
  · rfl
end
end DL
namespace DL
open PySem PySem.Spec PyProof.Rows L2
/-! ### promises by the number of arguments -/
def ar0 (p : DM → DVK → Prop) : DSp := fun ds M Q => ds = [] ∧ p M Q
def ar1 (p : D → DM → DVK → Prop) : DSp := fun ds M Q => ∃ a, ds = [a] ∧ p a M Q
def ar2 (p : D → D → DM → DVK → Prop) : DSp := fun ds M Q => ∃ a b, ds = [a, b] ∧ p a b M Q
def ar3 (p : D → D → D → DM → DVK → Prop) : DSp := fun ds M Q => ∃ a b c, ds = [a, b, c] ∧ p a b c M Q
def ar4 (p : D → D → D → D → DM → DVK → Prop) : DSp := fun ds M Q => ∃ a b c d, ds = [a, b, c, d] ∧ p a b c d M Q
def ar5 (p : D → D → D → D → D → DM → DVK → Prop) : DSp := fun ds M Q => ∃ a b c d e, ds = [a, b, c, d, e] ∧ p a b c d e M Q
def ar6 (p : D → D → D → D → D → D → DM → DVK → Prop) : DSp := fun ds M Q => ∃ a b c d e f, ds = [a, b, c, d, e, f] ∧ p a b c d e f M Q
theorem len0 {p} {ds : List D} {M : DM} {Q : DVK} (h : ar0 p ds M Q) : ds.length = 0 := by obtain ⟨rfl, _⟩ := h; rfl
theorem len1 {p} {ds : List D} {M : DM} {Q : DVK} (h : ar1 p ds M Q) : ds.length = 1 := by obtain ⟨_, rfl, _⟩ := h; rfl
theorem len2 {p} {ds : List D} {M : DM} {Q : DVK} (h : ar2 p ds M Q) : ds.length = 2 := by obtain ⟨_, _, rfl, _⟩ := h; rfl
theorem len3 {p} {ds : List D} {M : DM} {Q : DVK} (h : ar3 p ds M Q) : ds.length = 3 := by obtain ⟨_, _, _, rfl, _⟩ := h; rfl
theorem len4 {p} {ds : List D} {M : DM} {Q : DVK} (h : ar4 p ds M Q) : ds.length = 4 := by obtain ⟨_, _, _, _, rfl, _⟩ := h; rfl
theorem len5 {p} {ds : List D} {M : DM} {Q : DVK} (h : ar5 p ds M Q) : ds.length = 5 := by obtain ⟨_, _, _, _, _, rfl, _⟩ := h; rfl
theorem len6 {p} {ds : List D} {M : DM} {Q : DVK} (h : ar6 p ds M Q) : ds.length = 6 := by obtain ⟨_, _, _, _, _, _, rfl, _⟩ := h; rfl
theorem hu_eq {k : Nat} {A : Around} (hr : Room k A) : A.units + 64 < cLine := hr.units
theorem hu_in {k : Nat} {A : Around} (hr : Room k A) : A.units + 65 < cLine := by
  have := hr.un
  omega
section
variable {P : Program} {w : World} {K : PySem.W.Frag} {mg : Str → Option Value} {base : Heap} {k : Nat} {x : Str} {ps N : List Str} {dsp : DSp} {st : Stmt}
/-- THE RULE for a def, its function object at hand -/
theorem fn_ok {f : Addr} {fd : FuncData} (F : Fun K x x st f fd) (S : FnScope N ps (defScope st)) (len : ∀ ds M Q, dsp ds M Q → ds.length = ps.length) {t : DTS}
    (body : ∀ (f : Addr) (cdv : Value) (A : Around) (outer : List Env) (s : Shared) (H : Hp) (E : XK), Room k (A.deeper (envOfC x (defScope st) s.heap.objs.size f cdv)) → DSs (Ctx P w K mg base N x st f cdv A outer s H E) (defBody st) t)
    (rd : ∀ ds M Q, dsp ds M Q → t (dEnds Q) (dstart N ds) M) : FnOk P w K mg base CX0 (k + 1) f fd ps (upSp K dsp) := by
  refine F.ok S (fun vs H Q E ⟨ds, M, Q', l, _, q, _⟩ => by rw [← l.length]; exact len ds M Q' q) (fun cdv A outer s H vs Q E hr ⟨ds, M, Q', l, m, q, kk⟩ => ?_)
  refine ⟨_, body f cdv A outer s H E hr, dstart N ds, M, dEnds Q', ⟨?_, fun i d e => start_slot l e, m⟩, rd ds M Q' q,
    ⟨fun m1 M1 σ1 H1 g1 r1 ⟨M0, le, q1⟩ => kk _ _ M0 H1 g1 .non (r1.mem.le le) q1, fun _ _ _ _ _ _ z => z.elim, fun _ _ _ _ _ _ z => z.elim, fun d v M1 H1 g1 r1 m1 ⟨M0, le, q1⟩ => kk d v M0 H1 g1 r1 (m1.le le) q1⟩⟩
  simp [dstart, L2.start, l.length]
end
/-- the law's own promise: for every list of at most 63 ints it gives True -/
def sp_law : DSp := ar1 fun a _ Q => ∃ ns : List Int, ns.length ≤ 63 ∧ a = .lst (ns.map D.int) ∧ ∀ M', Q (.bl true) M'
theorem law_start {K : PySem.W.Frag} {H : Hp} {a : Addr} {ns : List Int} {E : XK} (hl : ns.length ≤ 63) (hO : Only H) (hS : SqL K H a (ns.map V.int)) : upSp K sp_law [.ref a] H (fun v _ => v = .bl true) E := by
  have hz : (ns.map V.int).length ≤ sizeLine := by
    rw [List.length_map]
    have := sizeLine_eq
    omega
  have hf : FrzL K H a (ns.map V.int) := by
    rcases hS with (h | ⟨o, h⟩) | h
    · rcases hO a with z | ⟨o, xs, z⟩ <;> (rw [z] at h; cases h)
    · exact .inl ⟨o, h⟩
    · exact .inr h
  refine ⟨[.lst (ns.map D.int)], fun _ => none, fun d _ => d = .bl true, .one (.lst hf hz (repL_ints ns)), (fun b o e => nomatch e), ⟨_, rfl, ns, hl, rfl, fun _ => rfl⟩, fun d v M' H' _ r _ q => ?_⟩
  subst q
  cases r
  rfl
end DL
namespace DL
open PySem PySem.Spec PyProof.Rows L2
/-! ### what the readings' steps need, as rewriting -/
theorem eqv_int (i j : Int) : D.eqv (.int i) (.int j) = decide (i = j) := by
  simp [D.eqv, D.py, PyData.eqv, Bool.beq_eq_decide_eq]
theorem eqv_str (i j : Str) : D.eqv (.str i) (.str j) = decide (i = j) := by
  simp [D.eqv, D.py, PyData.eqv, Bool.beq_eq_decide_eq]
theorem eqv_bl (i j : Bool) : D.eqv (.bl i) (.bl j) = (i == j) := by
  simp [D.eqv, D.py, PyData.eqv]
theorem dItems_rf (a : Addr) (M : DM) : dItems (.ref a) M = match M a with
  | some (.lst xs) => some xs
  | _ => none := rfl
theorem dLenOf_tup (xs : List D) (M : DM) : dLenOf (.tup xs) M = some xs.length := rfl
theorem dLenOf_lst (xs : List D) (M : DM) : dLenOf (.lst xs) M = some xs.length := rfl
theorem dLenOf_rf (a : Addr) (M : DM) : dLenOf (.ref a) M = match M a with
  | some (.lst xs) => some xs.length
  | _ => none := rfl
theorem dLenOf_str (z : Str) (M : DM) : dLenOf (.str z) M = if z.length ≤ sizeLine then some z.length else none := rfl
theorem dTyN_non (M : DM) : dTyN .non M = some "NoneType" := rfl
theorem dTyN_bl (b : Bool) (M : DM) : dTyN (.bl b) M = some "bool" := rfl
theorem dTyN_int (b : Int) (M : DM) : dTyN (.int b) M = some "int" := rfl
theorem dTyN_str (b : Str) (M : DM) : dTyN (.str b) M = some "str" := rfl
theorem dTyN_tup (b : List D) (M : DM) : dTyN (.tup b) M = some "tuple" := rfl
theorem dTyN_lst (b : List D) (M : DM) : dTyN (.lst b) M = some "list" := rfl
theorem dTyN_dct (b : List (D × D)) (M : DM) : dTyN (.dct b) M = some "dict" := rfl
theorem dTyN_rf (a : Addr) (M : DM) : dTyN (.ref a) M = match M a with
  | some (.lst _) => some "list"
  | some (.dk _) => some "dict"
  | _ => none := rfl
theorem dIntOf_int (i : Int) : dIntOf (.int i) = some i := rfl
theorem dIntOf_bl (b : Bool) : dIntOf (.bl b) = some (if b then 1 else 0) := rfl
theorem dAt_tup (xs : List D) : dAt (.tup xs) = none := rfl
theorem dAt_lst (xs : List D) : dAt (.lst xs) = none := rfl
theorem dAt_rf (a : Addr) : dAt (.ref a) = some a := rfl
theorem isN_non : D.isN .non = true := rfl
theorem isN_bl (b : Bool) : D.isN (.bl b) = false := rfl
theorem isN_int (b : Int) : D.isN (.int b) = false := rfl
theorem isN_str (b : Str) : D.isN (.str b) = false := rfl
theorem isN_tup (b : List D) : D.isN (.tup b) = false := rfl
theorem isN_lst (b : List D) : D.isN (.lst b) = false := rfl
theorem isN_rf (b : Addr) : D.isN (.ref b) = false := rfl
theorem eqv_non : D.eqv .non .non = true := by
  simp [D.eqv, D.py, PyData.eqv]
theorem eqv_refl {n : Nat} {d : D} (h : dOk n d = true) : D.eqv d d = true := PySem.SeqAt.eqv_refl _ (dOk_lay n d h).1
@[simp] theorem dOk_int (n : Nat) (i : Int) : dOk n (.int i) = true := by cases n <;> rfl
@[simp] theorem dOk_bl (n : Nat) (i : Bool) : dOk n (.bl i) = true := by cases n <;> rfl
@[simp] theorem dOk_non (n : Nat) : dOk n .non = true := by cases n <;> rfl
theorem dOk_str (n : Nat) (x : Str) : dOk n (.str x) = PyData.strOk x := by cases n <;> rfl
@[simp] theorem dOk_tup (n : Nat) (xs : List D) : dOk (n + 1) (.tup xs) = xs.all (dOk n) := rfl
@[simp] theorem dOk_lst (n : Nat) (xs : List D) : dOk (n + 1) (.lst xs) = xs.all (dOk n) := rfl
theorem atI_0 {α : Type} (x : α) (xs : List α) : atI (x :: xs) 0 = some x := atI_nat (j := 0) rfl
theorem atI_1 {α : Type} (x y : α) (xs : List α) : atI (x :: y :: xs) 1 = some y := atI_nat (j := 1) rfl
theorem atI_2 {α : Type} (x y z : α) (xs : List α) : atI (x :: y :: z :: xs) 2 = some z := atI_nat (j := 2) rfl
theorem atI_3 {α : Type} (x y z u : α) (xs : List α) : atI (x :: y :: z :: u :: xs) 3 = some u := atI_nat (j := 3) rfl
theorem atI_4 {α : Type} (x y z u v : α) (xs : List α) : atI (x :: y :: z :: u :: v :: xs) 4 = some v := atI_nat (j := 4) rfl
theorem atI_5 {α : Type} (x y z u v w : α) (xs : List α) : atI (x :: y :: z :: u :: v :: w :: xs) 5 = some w := atI_nat (j := 5) rfl
theorem atI_n {α : Type} (xs : List α) (n : Nat) : atI xs (n : Int) = xs[n]? := by
  unfold atI ixN
  rw [if_pos (by omega)]
  by_cases h : n < xs.length
  · rw [if_pos (by omega)]
    simp
  · rw [if_neg (by omega), List.getElem?_eq_none (by omega)]
    rfl
theorem atI_neg1 {α : Type} (xs : List α) : atI xs (-1) = xs.getLast? := by
  cases xs with
  | nil => rfl
  | cons x r =>
    rw [List.getLast?_eq_getElem?]
    unfold atI ixN
    rw [if_neg (by omega), if_pos (by rw [List.length_cons]; omega)]
    show (x :: r)[(-1 + ((x :: r).length : Int)).toNat]? = _
    congr 1
    rw [List.length_cons]
    omega
/-! ### sizes -/
/-- x has at most B bits -/
def Ab (B : Nat) (x : Int) : Prop := x.natAbs < 2 ^ B
theorem Ab.mono {a b : Nat} {x : Int} (h : Ab a x) (l : a ≤ b) : Ab b x := Nat.lt_of_lt_of_le h (Nat.pow_le_pow_right (by decide) l)
theorem Ab.mul {a b : Nat} {x y : Int} (h : Ab a x) (k : Ab b y) : Ab (a + b) (x * y) := wide_lt h k
theorem Ab.add {a : Nat} {x y : Int} (h : Ab a x) (k : Ab a y) : Ab (a + 1) (x + y) := by
  unfold Ab at h k ⊢
  have := Int.natAbs_add_le x y
  rw [Nat.pow_succ]
  omega
theorem Ab.sub {a : Nat} {x y : Int} (h : Ab a x) (k : Ab a y) : Ab (a + 1) (x - y) := by
  unfold Ab at h k ⊢
  have : (x - y).natAbs ≤ x.natAbs + y.natAbs := by omega
  rw [Nat.pow_succ]
  omega
theorem Ab.neg {a : Nat} {x : Int} (h : Ab a x) : Ab a (-x) := by
  unfold Ab at h ⊢
  rw [Int.natAbs_neg]
  exact h
theorem Ab.cmul {a b : Nat} {x y : Int} (h : Ab a x) (k : Ab b y) (l : a + b ≤ 999998) : CMulA x y :=
  .inr <| .inr <| wide_mul (h.mono (Nat.le_succ a)) (k.mono (Nat.le_succ b)) (by omega) (by omega) (by omega)
theorem Ab.cdiv {a : Nat} {x y : Int} (h : Ab a y) (p : 0 < y) (l : a ≤ 8999) : CDivA x y := .inr <| wide_div p (h.mono (Nat.le_succ a)) (by omega) (by omega)
theorem Ab.le {a : Nat} {x y : Int} (h : Ab a y) (h0 : 0 ≤ x) (l : x ≤ y) : Ab a x := wide_le h0 l h
theorem Ab.small {x : Int} (h : -1024 < x) (k : x < 1024) : Ab 10 x := by
  unfold Ab
  omega
theorem Ab.of {a : Nat} {x : Int} (h : x.natAbs < 2 ^ a) : Ab a x := h

/-! ### loops, by what holds of the items that are left -/
theorem for_ind {src : Src} {g : DTG} {tb : DTS} {Z : DEnds} (V : List D → DSt → DM → Prop) (fin : ∀ m M, V [] m M → SrcV src M ∧ Z.nx m M)
    (step : ∀ d ds m M (Cn : DSt → DM → Prop), (∀ m' M', V ds m' M' → Cn m' M') → V (d :: ds) m M → SrcV src M ∧ g d m M fun m1 M1 => tb { Z with nx := fg Cn, ct := fg Cn, bk := Z.nx } m1 M1) :
    ∀ ds m M, V ds m M → dForGo src g tb Z ds m M
  | [], m, M, h => fin m M h
  | d :: ds, m, M, h => step d ds m M (dForGo src g tb Z ds) (for_ind V fin step ds) h
theorem lc_ind {src : Src} {g : DTG} {tt : DTT} {te : DTE} {m0 : DSt} {p : Addr} {Qd : List D → DM → Prop} (V : List D → List D → DM → Prop) (fin : ∀ acc M, V [] acc M → SrcV src M ∧ Qd acc M)
    (step : ∀ d ds acc M (Cn : List D → DM → Prop), (∀ acc' M', V ds acc' M' → Cn acc' M') → V (d :: ds) acc M → SrcV src M ∧ g d m0 M fun m1 M1 => tt m1 M1 fun b M2 =>
      if b = true then te m1 M2 fun y M3 => M3 p = some (.lst acc) ∧ Cn (acc ++ [y]) (mput M3 p (.lst (acc ++ [y]))) else M2 p = some (.lst acc) ∧ Cn acc M2) :
    ∀ ds acc M, V ds acc M → dLcGo src g tt te m0 p Qd ds acc M
  | [], acc, M, h => fin acc M h
  | d :: ds, acc, M, h => step d ds acc M (dLcGo src g tt te m0 p Qd ds) (lc_ind V fin step ds) h
theorem mput_le {M N : DM} {p : Addr} {o : DO} (l : MLe M N) (h : M p = none) : MLe M (mput N p o) := l.put h
/-- a comprehension whose tests and elements change nothing: over e x for the x of xs -/
theorem lcGo_pure {α : Type} {src : Src} {g : DTG} {tt : DTT} {te : DTE} {m0 : DSt} {p : Addr} {Qd : List D → DM → Prop} {M1 : DM} (e : α → D) (pr : α → Bool) (f : α → D) (hp : M1 p = none) (sv : SrcV src M1) :
    ∀ (xs : List α) (step : ∀ x ∈ xs, ∀ M, MLe M1 M → ∀ (C1 : D → DM → Prop) (C2 : DM → Prop), (pr x = true → C1 (f x) M) → (pr x = false → C2 M) → g (e x) m0 M fun m1 M1 => tt m1 M1 fun b M2 => if b = true then te m1 M2 C1 else C2 M2)
      (acc : List D), Qd (acc ++ (xs.filter pr).map f) (mput M1 p (.lst (acc ++ (xs.filter pr).map f))) → dLcGo src g tt te m0 p Qd (xs.map e) acc (mput M1 p (.lst acc))
  | [], _, acc, h => ⟨fun a e => MLe.put (.refl M1) hp a _ (sv a e), by simpa using h⟩
  | x :: xs, step, acc, h => by
    refine ⟨fun a e => MLe.put (.refl M1) hp a _ (sv a e), step x (by simp) _ (MLe.put (.refl M1) hp) _ _ (fun e => ⟨mput_same, ?_⟩) fun e => ⟨mput_same, ?_⟩⟩
    · rw [mput_mput]
      refine lcGo_pure _ pr f hp sv xs (fun d' h' => step d' (by simp [h'])) _ ?_
      rw [List.filter_cons_of_pos e, List.map_cons] at h
      simpa using h
    · refine lcGo_pure _ pr f hp sv xs (fun d' h' => step d' (by simp [h'])) _ ?_
      rw [List.filter_cons_of_neg (by simp [e])] at h
      exact h
theorem filter_all {α : Type} : ∀ l : List α, l.filter (fun _ => true) = l
  | [] => rfl
  | x :: l => by rw [List.filter_cons_of_pos rfl, filter_all l]
theorem lc_pure {α : Type} {src : Src} {g : DTG} {tt : DTT} {te : DTE} {m0 : DSt} {Qd : Addr → List D → DM → Prop} {M1 : DM} (xs : List α) (e : α → D) (pr : α → Bool) (f : α → D) (hx : src.1 = xs.map e) (sv : SrcV src M1)
    (step : ∀ x ∈ xs, ∀ M, MLe M1 M → ∀ (C1 : D → DM → Prop) (C2 : DM → Prop), (pr x = true → C1 (f x) M) → (pr x = false → C2 M) → g (e x) m0 M fun m1 M1 => tt m1 M1 fun b M2 => if b = true then te m1 M2 C1 else C2 M2)
    (h : ∀ p, M1 p = none → Qd p ((xs.filter pr).map f) (mput M1 p (.lst ((xs.filter pr).map f)))) : ∀ p, M1 p = none → dLcGo src g tt te m0 p (Qd p) src.1 [] (mput M1 p (.lst [])) := fun p hp => by
  have z := lcGo_pure (Qd := Qd p) e pr f hp sv xs step [] (by rw [List.nil_append]; exact h p hp)
  rw [← hx] at z
  exact z
/-- .. without a test -/
theorem lc_map {α : Type} {src : Src} {g : DTG} {te : DTE} {m0 : DSt} {Qd : Addr → List D → DM → Prop} {M1 : DM} (xs : List α) (e : α → D) (f : α → D) (hx : src.1 = xs.map e) (sv : SrcV src M1)
    (step : ∀ x ∈ xs, ∀ M, MLe M1 M → ∀ (C1 : D → DM → Prop), C1 (f x) M → g (e x) m0 M fun m1 M1 => te m1 M1 C1)
    (h : ∀ p, M1 p = none → Qd p (xs.map f) (mput M1 p (.lst (xs.map f)))) : ∀ p, M1 p = none → dLcGo src g dYes te m0 p (Qd p) src.1 [] (mput M1 p (.lst [])) :=
  lc_pure xs e (fun _ => true) f hx sv (fun x hd M l C1 C2 h1 _ => step x hd M l C1 (h1 rfl)) (by rw [filter_all]; exact h)
theorem seq_i {t u : DTS} {Z : DEnds} {m : DSt} {M : DM} (h : t { Z with nx := u Z } m M) : dSeq t u Z m M := h
/-- behind a statement with several ends: what holds at each of them -/
theorem seq_cut {t u : DTS} {Z : DEnds} {m : DSt} {M : DM} (P : DSt → DM → Prop) (h1 : ∀ Cn : DSt → DM → Prop, (∀ m' M', P m' M' → Cn m' M') → t { Z with nx := Cn } m M) (h2 : ∀ m' M', P m' M' → u Z m' M') : dSeq t u Z m M := h1 (u Z) h2
theorem MLe.trans {M N O : DM} (h : MLe M N) (k : MLe N O) : MLe M O := fun a o e => k a o (h a o e)
/-- what is new, and what stood -/
theorem MLe.with {M N : DM} {a : Addr} {o : DO} (l : MLe M N) (h : N a = some o) : MLe (mput M a o) N := fun b p e => by
  by_cases hb : b = a
  · subst hb
    rw [mput_same] at e
    cases e
    exact h
  · rw [mput_ne hb] at e
    exact l b p e
/-- a store to what is new -/
theorem MLe.store {M N : DM} {a : Addr} {o : DO} (l : MLe M N) (h : M a = none) : MLe M (mput N a o) := l.put h
theorem ne_of_fresh {M : DM} {a b : Addr} {o : DO} (h : M a = some o) (k : M b = none) : a ≠ b := fun e => by
  rw [e, k] at h
  cases h
theorem atI_lt {α : Type} {xs : List α} {i : Int} (h0 : 0 ≤ i) (h1 : i < xs.length) : ∃ x, x ∈ xs ∧ atI xs i = some x := by
  obtain ⟨n, rfl⟩ : ∃ n : Nat, i = n := ⟨i.toNat, by omega⟩
  have hn : n < xs.length := by omega
  exact ⟨xs[n], List.getElem_mem hn, by rw [atI_n, List.getElem?_eq_getElem hn]⟩
theorem atI_map {α β : Type} (f : α → β) (xs : List α) (i : Int) : atI (xs.map f) i = (atI xs i).map f := by
  unfold atI
  rw [List.length_map]
  cases ixN xs.length i with
  | none => rfl
  | some j => simp
theorem ixN_lt {n : Nat} {i : Int} (h0 : 0 ≤ i) (h1 : i < n) : ixN n i = some i.toNat := by
  unfold ixN
  rw [if_pos h0, if_pos h1]
theorem items_put {M : DM} {p : Addr} {o : DO} {d : D} (h : d ≠ .ref p) : dItems d (mput M p o) = dItems d M := by
  cases d with
  | ref a =>
    have : a ≠ p := fun e => h (e ▸ rfl)
    simp only [dItems, mput_ne this]
  | _ => rfl
/-- the empty promise -/
theorem Def.nil {P : Program} {w : World} {K : PySem.W.Frag} {mg : Str → Option Value} {base : Heap} {k : Nat} {x : Str} {ps : List Str} {st : Stmt} (F : Def K mg x st ps) : Cal P w K mg base k x ps (fun _ _ _ => False) := by
  obtain ⟨f, fd, F, hm, hb⟩ := F.ex
  exact ⟨f, fd, ⟨fun _ _ _ _ ⟨_, _, _, _, _, z, _⟩ => z.elim, fun _ _ _ _ _ _ _ _ _ _ _ _ _ ⟨_, _, _, _, _, z, _⟩ => z.elim⟩, hm, F.kp, hb⟩
/-- a list of draws: ints, whichever -/
def DrO (o : DO) : Prop := ∃ ks : List Int, o = .lst (ks.map D.int)
def Dr (M : DM) (p : Addr) : Prop := ∃ o, M p = some o ∧ DrO o
theorem dr_put {M : DM} {p : Addr} {o : DO} (h : DrO o) : Dr (mput M p o) p := ⟨o, mput_same, h⟩
theorem dr_at {M : DM} {p : Addr} {o : DO} (h : DrO o) (e : M p = some o) : Dr M p := ⟨o, e, h⟩
theorem dr_ne {M : DM} {p q : Addr} {o : DO} (h : Dr M p) (e : p ≠ q) : Dr (mput M q o) p := let ⟨o', h1, h2⟩ := h; ⟨o', by rw [mput_ne e]; exact h1, h2⟩
theorem Dr.le {M N : DM} {p : Addr} (h : Dr M p) (l : MLe M N) : Dr N p := let ⟨o, h1, h2⟩ := h; ⟨o, l _ _ h1, h2⟩
theorem Dr.some {M : DM} {p q : Addr} (h : Dr M p) (k : M q = none) : p ≠ q := let ⟨_, h1, _⟩ := h; ne_of_fresh h1 k
theorem srcV_none {xs : List D} {M : DM} : SrcV (xs, none) M := fun _ e => nomatch e
theorem fz_new {xs : List D} {M : DM} {Q : DVK} (h : Q (.lst xs) M) : ∀ p, M p = none → ∃ p' ds, D.ref p = .ref p' ∧ mput M p (.lst xs) p' = some (.lst ds) ∧ Q (.lst ds) (mdel (mput M p (.lst xs)) p') := fun p hp =>
  ⟨p, xs, rfl, mput_same, by rw [mdel_mput hp]; exact h⟩
end DL
namespace DL
open PySem PySem.Spec PyProof.Rows L2
section
variable {X : Cx} {e a b : Expr} {es : List Expr} {pos p apos cpos : Pos} {te ta tb : DTE} {t : DTA} {x : Str}

theorem items_kind {K : PySem.W.Frag} {H : Hp} {M : DM} {d : D} {v : V} {xs : List D} (r : Rep K H d v) (m : RM K H M) (e : dItems d M = some xs) :
    ∃ a vs, v = .ref a ∧ vs.length ≤ sizeLine ∧ RepL K H xs vs ∧ ((SqL K H a vs ∧ d ≠ .tup xs) ∨ (SqT K H a vs ∧ d = .tup xs)) := by
  cases r with
  | tup hT z l =>
    cases e
    exact ⟨_, _, rfl, z, l, .inr ⟨hT, rfl⟩⟩
  | lst hL z l =>
    cases e
    exact ⟨_, _, rfl, z, l, .inl ⟨hL.seq, fun q => nomatch q⟩⟩
  | ref a =>
    obtain ⟨a', vs, e1, z, l, ⟨h1, _⟩ | ⟨_, h2⟩⟩ := items_of (Rep.ref a) m e
    · exact ⟨a', vs, e1, z, l, .inl ⟨h1, fun q => nomatch q⟩⟩
    · cases h2
  | _ => cases e

/-! ### + of ints, texts, tuples -/
def dAdd : DR2 := fun x y M Q => match x, y with
  | .int i, .int j => Q (.int (i + j)) M
  | .str i, .str j => i.length + j.length ≤ 16777216 ∧ Q (.str (i ++ j)) M
  | .tup xs, .tup ys => xs.length + ys.length ≤ 16777216 ∧ Q (.tup (xs ++ ys)) M
  | _, _ => False
theorem o_addA : DOp X (binaryOp .Add) dAdd := by
  intro pins s σ H x y v u Q I rx ry ⟨d, e, M, Q', r1, r2, m, q, k⟩
  cases d with
  | int i =>
    cases e with
    | int j =>
      cases r1
      cases r2
      exact op_add pins s σ H _ _ v u Q I rx ry ⟨i, j, rfl, rfl, k _ _ M H (.refl H) (.int _) m q⟩
    | _ => exact q.elim
  | str i =>
    cases e with
    | str j =>
      cases r1
      cases r2
      obtain ⟨z, q⟩ := q
      exact op_add_str pins s σ H _ _ v u Q I rx ry ⟨i, j, rfl, rfl, by rw [sizeLine_eq]; exact z, k _ _ M H (.refl H) (.str _) m q⟩
    | _ => exact q.elim
  | tup xs =>
    cases e with
    | tup ys =>
      obtain ⟨z, q⟩ := q
      cases id r1 with
      | tup h1 z1 l1 =>
        cases id r2 with
        | tup h2 z2 l2 =>
          have hz : xs.length + ys.length ≤ sizeLine := by rw [sizeLine_eq]; exact z
          rw [l1.length, l2.length] at hz
          refine op_catA pins s σ H _ _ v u Q I rx ry ⟨_, _, _, _, rfl, rfl, h1, h2, hz, fun e1 => ?_, fun e1 e2 => ?_, fun e1 e2 p hp => ?_⟩
          · subst e1
            cases l1
            exact k _ _ M H (.refl H) r2 m q
          · subst e2
            cases l2
            rw [List.append_nil] at q
            exact k _ _ M H (.refl H) r1 m q
          · exact k _ _ M _ (.new hp) (.tup (.of upd_same) (by rw [List.length_append]; exact hz) ((l1.append l2).grow (.new hp))) (m.new hp) q
    | _ => exact q.elim
  | _ => exact q.elim

/-! ### + of lists -/
def rCatS (K : PySem.W.Frag) : R2 := fun x y H Q => ∃ a b xs ys, x = .ref a ∧ y = .ref b ∧ SqL K H a xs ∧ SqL K H b ys ∧ xs.length + ys.length ≤ sizeLine ∧
  ∀ p, H p = none → Q (.ref p) (upd H p (.lst (xs ++ ys)))
theorem op_catS : OpR X (binaryOp .Add) (rCatS X.K) := by
  intro pins s σ H x y v u Q I rx ry ⟨a, b, xs, ys, e1, e2, h1, h2, hz, q⟩
  subst e1
  subst e2
  cases rx
  cases ry
  obtain ⟨us, r1, pl1, _⟩ := I.list h1
  obtain ⟨ws, r2, pl2, _⟩ := I.list h2
  obtain ⟨⟨c1, dd1, dt1, sl1⟩, ho1, hc1, n1, hd1⟩ := pl1.isList
  obtain ⟨⟨c2, dd2, dt2, sl2⟩, ho2, hc2, n2, hd2⟩ := pl2.isList
  simp only at hc1 hd1 hc2 hd2
  subst hc1 hd1 hc2 hd2
  have hz' : us.toArray.size + ws.toArray.size ≤ sizeLine := by
    have y1 := r1.length
    have y2 := r2.length
    simp only [List.size_toArray]
    omega
  have ee : us.toArray ++ ws.toArray = (us ++ ws).toArray := by simp
  refine concat_meets ⟨_, ho1, rfl⟩ ⟨_, ho2, rfl⟩ noFill_list_add seq_list_add PySem.F.slot_list_add PySem.F.entry_list_add (PySem.F.args_list_add_2 _ _)
    (PyProof.Rows.list_addW a b us.toArray ws.toArray n1 n2 dd1 dd2 sl1 sl2 hz') ⟨ho1, ho2, ?_⟩
  rw [ee]
  exact ⟨.ref _, _, I.lnew (t' := s.toks) (r1.append r2) (by rw [List.length_append]; exact hz), rfl, q _ I.fresh⟩
/-- the items of two lists in a row -/
def dCat (ta tb : DTE) : DTE := fun m M Q => ta m M fun d M1 => tb m M1 fun e M2 => ∃ xs ys, dItems d M2 = some xs ∧ d ≠ .tup xs ∧ dItems e M2 = some ys ∧ e ≠ .tup ys ∧ xs.length + ys.length ≤ 16777216 ∧ ∀ p, M2 p = none → Q (.ref p) (mput M2 p (.lst (xs ++ ys)))
def dCatF (ta tb : DTE) : DTE := fun m M Q => ta m M fun d M1 => tb m M1 fun e M2 => ∃ xs ys, dItems d M2 = some xs ∧ d ≠ .tup xs ∧ dItems e M2 = some ys ∧ e ≠ .tup ys ∧ xs.length + ys.length ≤ 16777216 ∧ Q (.lst (xs ++ ys)) M2
theorem lst_of {K : PySem.W.Frag} {H : Hp} {M : DM} {d : D} {v : V} {xs : List D} (r : Rep K H d v) (m : RM K H M) (h : dItems d M = some xs) (h2 : d ≠ .tup xs) : ∃ a vs, v = .ref a ∧ vs.length ≤ sizeLine ∧ RepL K H xs vs ∧ SqL K H a vs := by
  obtain ⟨a, vs, e, z, l, ⟨h4, _⟩ | ⟨_, h5⟩⟩ := items_of r m h
  · exact ⟨a, vs, e, z, l, h4⟩
  · exact absurd h5 h2
theorem d_cat (ha : DE X a ta) (hb : DE X b tb) : DE X (.BinOp a .Add b pos) (dCat ta tb) :=
  imE (pe_op op_catS ha hb) fun σ H Q ⟨m, M, Q', r, q, k⟩ => by
    refine ⟨m, M, _, r, q, fun d v M1 H1 g1 r1 m1 q1 => ?_⟩
    refine ⟨m, M1, _, r.grow g1 m1, q1, fun e w M2 H2 g2 r2 m2 ⟨xs, ys, h1, h2, h3, h4, hz, q2⟩ => ?_⟩
    obtain ⟨a1, vs, rfl, z1, l1, s1⟩ := lst_of (r1.grow g2) m2 h1 h2
    obtain ⟨a2, ws, rfl, z2, l2, s2⟩ := lst_of r2 m2 h3 h4
    have hz' : vs.length + ws.length ≤ sizeLine := by rw [← l1.length, ← l2.length, sizeLine_eq]; exact hz
    refine ⟨a1, a2, vs, ws, rfl, rfl, s1, s2, hz', fun p hp => k _ _ _ _ ((g1.trans g2).trans (.new hp)) (.ref p) (m2.newLst hp (by rw [List.length_append]; exact hz') (l1.append l2)) (q2 p (m2.free hp))⟩
theorem d_catF (ha : DE X a ta) (hb : DE X b tb) : DE X (.BinOp a .Add b pos) (dCatF ta tb) :=
  imE (pe_fz (pe_op op_catS ha hb)) fun σ H Q ⟨m, M, Q', r, q, k⟩ => by
    refine ⟨m, M, _, r, q, fun d v M1 H1 g1 r1 m1 q1 => ?_⟩
    refine ⟨m, M1, _, r.grow g1 m1, q1, fun e w M2 H2 g2 r2 m2 ⟨xs, ys, h1, h2, h3, h4, hz, q2⟩ => ?_⟩
    obtain ⟨a1, vs, rfl, z1, l1, s1⟩ := lst_of (r1.grow g2) m2 h1 h2
    obtain ⟨a2, ws, rfl, z2, l2, s2⟩ := lst_of r2 m2 h3 h4
    have hz' : vs.length + ws.length ≤ sizeLine := by rw [← l1.length, ← l2.length, sizeLine_eq]; exact hz
    refine ⟨a1, a2, vs, ws, rfl, rfl, s1, s2, hz', fun p hp => ⟨p, _, rfl, upd_same, fun o => ?_⟩⟩
    rw [upd_upd]
    exact k _ _ _ _ ((g1.trans g2).trans (.new hp)) (.lst (.inl ⟨o, upd_same⟩) (by rw [List.length_append]; exact hz') ((l1.append l2).grow (.new hp))) (m2.new hp) q2

/-! ### slices -/
def cutD (xs : List D) (lo hi : Option Int) : List D := (xs.drop (HT.sIx xs.length 0 lo)).take (HT.sIx xs.length xs.length hi - HT.sIx xs.length 0 lo)
theorem RepL.cut {K : PySem.W.Frag} {H : Hp} {xs : List D} {vs : List V} (l : RepL K H xs vs) (lo hi : Option Int) : RepL K H (cutD xs lo hi) (cutV vs lo hi) := by
  unfold cutD cutV
  rw [l.length]
  exact (l.drop _).take _
theorem cutD_len (xs : List D) (lo hi : Option Int) : (cutD xs lo hi).length ≤ xs.length := by
  unfold cutD
  rw [List.length_take, List.length_drop]
  omega
theorem cutD_from (xs : List D) (k : Nat) : cutD xs (some (k : Int)) none = xs.drop k := by
  unfold cutD
  rw [HT.sIx_nat, HT.sIx_none, List.take_of_length_le (by rw [List.length_drop]; exact Nat.le_refl _)]
  by_cases h : k ≤ xs.length
  · rw [Nat.min_eq_left h]
  · rw [Nat.min_eq_right (by omega), List.drop_length, List.drop_eq_nil_of_le (by omega)]
theorem cutD_to (xs : List D) (k : Nat) : cutD xs none (some (k : Int)) = xs.take k := by
  unfold cutD
  rw [HT.sIx_nat, HT.sIx_none, List.drop_zero, Nat.sub_zero]
  by_cases h : k ≤ xs.length
  · rw [Nat.min_eq_left h]
  · rw [Nat.min_eq_right (by omega), List.take_length, List.take_of_length_le (by omega)]
theorem cutD_all (xs : List D) : cutD xs none none = xs := by
  unfold cutD
  rw [HT.sIx_none, HT.sIx_none, List.drop_zero, Nat.sub_zero, List.take_length]
abbrev DTO := DSt → DM → (Option Int → DM → Prop) → Prop
def upO (K : PySem.W.Frag) (t : DTO) : TO := fun σ H Q => ∃ m M Q', R K m M σ H ∧ t m M Q' ∧ ∀ o M' H', Grow H H' → RM K H' M' → Q' o M' → Q o H'
abbrev DPO (X : Cx) (e : Option Expr) (t : DTO) : Prop := PO X e (upO X.K t)
theorem imO {e : Option Expr} {t t' : TO} (h : PO X e t) (i : ∀ σ H Q, t' σ H Q → t σ H Q) : PO X e t' := ⟨fun pins s σ H Q I q => h.run pins s σ H Q I (i σ H Q q)⟩
def dNoP : DTO := fun _ M Q => Q none M
def dPart (te : DTE) : DTO := fun m M Q => te m M fun d M1 => ∃ i, d = .int i ∧ Q (some i) M1
theorem dp_none : DPO X none dNoP := imO po_none fun σ H Q ⟨m, M, Q', r, q, k⟩ => k _ M H (.refl H) r.mem q
theorem dp_some (h : DE X e te) : DPO X (some e) (dPart te) := imO (po_some h) fun σ H Q ⟨m, M, Q', r, q, k⟩ => by
  refine ⟨m, M, _, r, q, fun d v M1 H1 g1 r1 m1 ⟨i, e1, q1⟩ => ?_⟩
  subst e1
  cases r1
  exact ⟨i, rfl, k _ M1 H1 g1 m1 q1⟩
/-- of a tuple a tuple, of a list a list that stays -/
def dSl (te : DTE) (tl th : DTO) : DTE := fun m M Q => te m M fun d M1 => tl m M1 fun lo M2 => th m M2 fun hi M3 => ∃ xs, dItems d M3 = some xs ∧ (d = .tup xs → Q (.tup (cutD xs lo hi)) M3) ∧ (d ≠ .tup xs → Q (.lst (cutD xs lo hi)) M3)
def tFzO (t : TE) : TE := fun σ H Q => t σ H fun v H1 => Q v H1 ∨ ∃ p vs, v = .ref p ∧ H1 p = some (.lst vs) ∧ ∀ o, Q v (upd H1 p (.frz o (.lst vs)))
theorem pe_fzO {t : TE} (h : PE X e t) : PE X e (tFzO t) := by
  refine ⟨fun pins s σ H Q I q => thn (h.run pins s σ H _ I q) fun u s1 ⟨v, H1, I1, r1, q1⟩ => ?_⟩
  rcases q1 with q1 | ⟨p, vs, e1, e2, q1⟩
  · exact ⟨v, H1, I1, r1, q1⟩
  · obtain ⟨o, I2⟩ := inv_frz I1 e2
    exact ⟨v, _, I2, r1, q1 o⟩
variable {lo hi : Option Expr} {tl th : DTO} {p2 : Pos}
theorem d_sl (he : DE X e te) (hl : DPO X lo tl) (hh : DPO X hi th) : DE X (.Subscript e (.Slice lo hi none p2) pos) (dSl te tl th) :=
  imE (pe_fzO (pe_slice (sl_tupA.or sl_list) he hl hh)) fun σ H Q ⟨m, M, Q', r, q, k⟩ => by
    refine ⟨m, M, _, r, q, fun d v M1 H1 g1 r1 m1 q1 => ?_⟩
    refine ⟨m, M1, _, r.grow g1 m1, q1, fun o1 M2 H2 g2 m2 q2 => ?_⟩
    refine ⟨m, M2, _, r.grow (g1.trans g2) m2, q2, fun o2 M3 H3 g3 m3 ⟨xs, h1, q3, q4⟩ => ?_⟩
    have g := (g1.trans g2).trans g3
    have r3 := r1.grow (g2.trans g3)
    obtain ⟨a1, vs, rfl, z, l, ⟨h4, hnt⟩ | ⟨h4, h5⟩⟩ := items_kind r3 m3 h1
    · have nt : d ≠ .tup xs := hnt
      refine .inr ⟨a1, vs, rfl, h4, fun p hp => .inr ⟨p, _, rfl, upd_same, fun o => ?_⟩⟩
      rw [upd_upd]
      exact k _ _ _ _ (g.trans (.new hp)) (.lst (.inl ⟨o, upd_same⟩) (Nat.le_trans (cutV_length vs o1 o2) z) ((l.cut o1 o2).grow (.new hp))) (m3.new hp) (q4 nt)
    · refine .inl ⟨a1, vs, rfl, h4, fun w => .inl ?_, fun w p hp => .inl ?_⟩
      · have e5 : cutD xs o1 o2 = xs := by
          unfold cutD
          rw [l.length, w.1, w.2, List.drop_zero, Nat.sub_zero, ← l.length, List.take_length]
        have q5 := q3 h5
        rw [e5] at q5
        subst h5
        exact k _ _ M3 H3 g r3 m3 q5
      · exact k _ _ _ _ (g.trans (.new hp)) (.tup (.of upd_same) (Nat.le_trans (cutV_length vs o1 o2) z) ((l.cut o1 o2).grow (.new hp))) (m3.new hp) (q3 h5)
end
end DL
namespace DL
open PySem PySem.Spec PyProof.Rows L2
section
variable {X : Cx} {e a b o : Expr} {es : List Expr} {pos p apos cpos : Pos} {te ta tb to : DTE} {t : DTA} {x : Str} {tg l : Expr}

/-! ### signs of a text -/
def sgn (z : Str) (i : Int) : Option Str := (atI z.cps.toList i).map fun c => ⟨#[c]⟩
def dIxS : DR2 := fun x y M Q => match x with
  | .str z => ∃ i c, y = .int i ∧ z.length ≤ 16777216 ∧ sgn z i = some c ∧ Q (.str c) M
  | _ => dIx x y M Q
theorem x_ixS : IxR X (upR2 X.K dIxS) := by
  intro value slice pins s σ H x y v u Q I rx ry ⟨d, e, M, Q', r1, r2, m, q, k⟩ hop
  cases d with
  | str z =>
    obtain ⟨i, c, e1, hz, h, q⟩ := q
    subst e1
    cases r1
    cases r2
    unfold sgn at h
    cases w : atI z.cps.toList i with
    | none => rw [w] at h; cases h
    | some n =>
      rw [w] at h
      cases h
      exact ix_str value slice pins s σ H _ _ v u Q I rx ry ⟨z, i, n, rfl, rfl, by rw [sizeLine_eq]; exact hz, w, k _ _ M H (.refl H) (.str _) m q⟩ hop
  | _ => exact x_ix value slice pins s σ H _ _ v u Q I rx ry ⟨_, e, M, Q', r1, r2, m, q, k⟩ hop

/-! ### * of ints, of a text and an int -/
def srep (z : Str) (k : Nat) : Str := ⟨(List.replicate k z.cps.toList).flatten.toArray⟩
theorem foldl_apps (u : Array Nat) : ∀ (k : Nat) (acc : Array Nat), (List.replicate k u).foldl (· ++ ·) acc = (acc.toList ++ (List.replicate k u.toList).flatten).toArray
  | 0, acc => by simp
  | k + 1, acc => by
    rw [List.replicate_succ, List.foldl_cons, foldl_apps u k (acc ++ u), List.replicate_succ, List.flatten_cons]
    simp
theorem srep_1 (z : Str) : srep z 1 = z := Str.ext' (by simp [srep])
theorem srep_0 (z : Str) : srep z 0 = Str.empty := Str.ext' (by simp [srep, Str.empty])
theorem srep_len (z : Str) (k : Nat) : (srep z k).length = z.length * k := by
  simp [srep, Str.length, Nat.mul_comm]
def dMulA : DR2 := fun x y M Q => match x, y with
  | .int i, .int j => CMulA i j ∧ Q (.int (i * j)) M
  | .str z, .int k => (0 ≤ k ∧ k ≤ 1000000) ∧ z.length * k.toNat ≤ 16777216 ∧ Q (.str (srep z k.toNat)) M
  | _, _ => False
theorem o_mulA : DOp X (binaryOp .Mult) dMulA := by
  intro pins s σ H x y v u Q I rx ry ⟨d, e, M, Q', r1, r2, m, q, k⟩
  cases d with
  | int i =>
    cases e with
    | int j => exact o_mul pins s σ H x y v u Q I rx ry ⟨_, _, M, Q', r1, r2, m, ⟨i, j, rfl, rfl, q.1, q.2⟩, k⟩
    | _ => exact q.elim
  | str z =>
    cases e with
    | int n =>
      cases r1
      cases r2
      obtain ⟨t1, rfl⟩ := rx
      obtain ⟨t2, rfl⟩ := ry
      obtain ⟨⟨n0, n1⟩, hz, q⟩ := q
      have fin : ∀ (w : Value) (kk : Nat), RelV (V.str (srep z n.toNat)) w → EP X pins σ Q w { s with toks := kk } := fun w kk hr => ⟨_, H, I.tok kk, hr, k _ _ M H (.refl H) (.str _) m q⟩
      refine PySem.P.mul_str ?_ (fun h1 h2 => ?_) (fun h1 h2 => ?_) ?_
      · rw [decide_eq_false (by omega), decide_eq_false (by omega)]
        rfl
      · rw [Bool.or_eq_false_iff] at h2
        have hn : ¬ n = 1 := by simpa using h2.1
        have : (z.length : Int) ≤ 16777216 := by
          have : 1 ≤ n.toNat := by omega
          have := Nat.mul_le_mul_left z.length this
          omega
        intro hc
        have hb : (2 ^ 63 - 1) / n ≥ 16777216 := by
          apply Int.le_ediv_of_mul_le (by omega)
          omega
        omega
      · exact PyProof.Rows.short24 (by omega)
      · by_cases h1 : n < 1
        · rw [if_pos h1]
          have : n = 0 := by omega
          subst this
          exact ⟨by decide, fin _ _ ⟨_, by rw [show (0 : Int).toNat = 0 from rfl, srep_0] <;> rfl⟩⟩
        · rw [if_neg h1]
          split
          · next h2 =>
            have e1 : srep z n.toNat = z := by
              rw [Bool.or_eq_true] at h2
              rcases h2 with h2 | h2
              · have : n = 1 := by simpa using h2
                subst this
                exact srep_1 z
              · have h3 : z.length = 0 := by simpa using h2
                refine Str.ext' ?_
                have h4 : z.cps = #[] := by
                  have h5 : z.cps.size = 0 := h3
                  exact Array.eq_empty_of_size_eq_zero h5
                simp [srep, h4]
            exact fin _ s.toks ⟨_, by rw [e1] <;> rfl⟩
          · next h2 =>
            have e1 : (⟨(List.replicate n.toNat z.cps).foldl (· ++ ·) #[]⟩ : Str) = srep z n.toNat := by
              refine Str.ext' ?_
              show (List.replicate n.toNat z.cps).foldl (· ++ ·) #[] = _
              rw [foldl_apps]
              simp [srep]
            rw [e1]
            refine ⟨?_, fin _ _ ⟨_, rfl⟩⟩
            show (srep z n.toNat).length ≤ sizeLine
            rw [srep_len, sizeLine_eq]
            exact hz
    | _ => exact q.elim
  | _ => exact q.elim
/-- a list that was just made, times an int -/
def dRep (ta tb : DTE) : DTE := fun m M Q => ta m M fun d M1 => tb m M1 fun e M2 => ∃ p xs k, d = .ref p ∧ e = .int k ∧ M2 p = some (.lst xs) ∧ (0 ≤ k ∧ k ≤ 1000000) ∧ xs.length * k.toNat ≤ 16777216 ∧ ∀ q, M2 q = none → Q (.ref q) (mput M2 q (.lst (List.replicate k.toNat xs).flatten))
theorem RepL.rep {K : PySem.W.Frag} {H : Hp} {xs : List D} {vs : List V} (l : RepL K H xs vs) : ∀ n : Nat, RepL K H (List.replicate n xs).flatten (List.replicate n vs).flatten
  | 0 => .nil
  | n + 1 => by
    rw [List.replicate_succ, List.flatten_cons, List.replicate_succ, List.flatten_cons]
    exact l.append (l.rep n)
theorem rep_len {α : Type} (xs : List α) (n : Nat) : (List.replicate n xs).flatten.length = xs.length * n := by
  simp [Nat.mul_comm]
theorem d_rep (ha : DE X a ta) (hb : DE X b tb) : DE X (.BinOp a .Mult b pos) (dRep ta tb) :=
  imE (pe_op op_rep ha hb) fun σ H Q ⟨m, M, Q', r, q, k⟩ => by
    refine ⟨m, M, _, r, q, fun d v M1 H1 g1 r1 m1 q1 => ?_⟩
    refine ⟨m, M1, _, r.grow g1 m1, q1, fun e w M2 H2 g2 r2 m2 ⟨p, xs, n, e1, e2, h1, hn, hz, q2⟩ => ?_⟩
    subst e1
    subst e2
    cases r1
    cases r2
    obtain ⟨vs, h3, z, l⟩ := m2.lst h1
    have hz' : vs.length * n.toNat ≤ sizeLine := by rw [← l.length, sizeLine_eq]; exact hz
    refine ⟨p, n, vs, rfl, rfl, h3, by omega, by omega, hz', fun q' hq => ?_⟩
    exact k _ _ _ _ ((g1.trans g2).trans (.new hq)) (.ref q') (m2.newLst hq (by rw [rep_len]; exact hz') (l.rep n.toNat)) (q2 q' (m2.free hq))

/-! ### sep.join(list or tuple of texts) -/
def dJoin (to : DTE) (t : DTA) : DTE := fun m M Q => to m M fun d M1 => ∃ a, d = .str a ∧ t m M1 fun ds M2 => ∃ y ys, ds = [y] ∧ dItems y M2 = some (ys.map D.str) ∧ (ys.map (·.length)).sum + ys.length * a.length ≤ 16777216 ∧ Q (.str (Txt.join a ys)) M2
theorem strs_rep {K : PySem.W.Frag} {H : Hp} : ∀ {ys : List Str} {vs : List V}, RepL K H (ys.map D.str) vs → vs = ys.map V.str
  | [], _, h => by
    cases h
    rfl
  | y :: ys, _, h => by
    cases h with
    | cons h1 h2 =>
      cases h1
      rw [strs_rep h2]
      rfl
theorem d_join (ho : DE X o to) (ha : DA X (e :: es) t)
    (hbase : attributeBase o "join" X.env (eval o X.env) = eval o X.env := by rfl)
    (hfew : ((backTo cpos (starEach (e :: es) X.env)).all (fun x => !x.1) && (backToKw cpos (keywordEach [] X.env)).all (fun x => x.1.isSome)
      && decide ((e :: es).length + ([] : List Keyword).length + (if ([] : List Keyword).isEmpty then 0 else 1) < 30)) = true := by rfl)
    (hline : (apos.endLine == cpos.line) = true := by rfl) (hs : starEach (e :: es) X.env = (false, eval e X.env) :: starEach es X.env := by rfl) (hplain : (backTo cpos (starEach es X.env)).any (·.1) = false := by rfl) :
    DE X (.Call (.Attribute o "join" apos) (e :: es) [] cpos) (dJoin to t) :=
  imE (pe_bm PySem.F.plainAttrs_str PySem.F.slot_str_join PySem.F.type_str_join mt_join ho ha hbase hfew hline hs hplain) fun σ H Q ⟨m, M, Q', r, q, k⟩ => by
    refine ⟨m, M, _, r, q, fun d v M1 H1 g1 r1 m1 ⟨a, e1, q1⟩ => ?_⟩
    subst e1
    cases r1
    refine ⟨rfl, m, M1, _, r.grow g1 m1, q1, fun ds vs M2 H2 g2 l2 m2 ⟨y, ys, e2, h1, hz, q2⟩ => ?_⟩
    subst e2
    obtain ⟨w, e3, rw'⟩ := repL_one l2
    subst e3
    obtain ⟨a2, ws, rfl, z, l3, h4⟩ := items_of rw' m2 h1
    rw [strs_rep l3] at h4
    exact ⟨a, a2, ys, rfl, rfl, h4.elim (fun h => .inl h.1) fun h => .inr h.1, hz, k _ _ M2 H2 (g1.trans g2) (.str _) m2 q2⟩

/-! ### lists: extend, index -/
def mExtend : DMR := fun d ds M Q => ∃ a b xs zs, d = .ref a ∧ ds = [.ref b] ∧ M a = some (.lst xs) ∧ M b = some (.lst zs) ∧ xs.length + zs.length ≤ 16777216 ∧ Q .non (mput M a (.lst (xs ++ zs)))
theorem m_extend : MtR X "list.extend" (upM X.K mExtend) := by
  intro pins s σ H x vs v us Q I rx rv ⟨d, ds, M, Q', r1, l, m, ⟨a, b, xs, zs, e1, e2, h, hb, hz, q⟩, k⟩
  subst e1
  subst e2
  cases r1
  obtain ⟨w, e, rw'⟩ := repL_one l
  subst e
  cases rw'
  obtain ⟨ws, h1, z, l1⟩ := m.lst h
  obtain ⟨us2, h2, z2, l2⟩ := m.lst hb
  have hz' : ws.length + us2.length ≤ sizeLine := by rw [← l1.length, ← l2.length, sizeLine_eq]; exact hz
  refine mt_extend pins s σ H _ _ v us Q I rx rv ⟨a, b, ws, us2, rfl, rfl, h1, h2, hz', ?_⟩
  exact k _ _ _ _ (.put h1) .non (m.putLst h1 (by rw [List.length_append]; exact hz') (l1.append l2)) q
def mIndex : DMR := fun d ds M Q => ∃ xs y j z, ds = [y] ∧ dItems d M = some xs ∧ d ≠ .tup xs ∧ (dOk 63 y = true ∧ xs.all (dOk 63) = true) ∧ xs[j]? = some z ∧ D.eqv z y = true ∧ (∀ (i : Nat) (u : D), i < j → xs[i]? = some u → D.eqv u y = false) ∧ Q (.int (j : Nat)) M
theorem m_index (hu : X.A.units + 65 < cLine) : MtR X "list.index" (upM X.K mIndex) := by
  intro pins s σ H x vs v us Q I rx rv ⟨d, ds, M, Q', r1, l, m, ⟨xs, y, j, z, e1, h, h2, ⟨h3, h4⟩, hj, hz, hno, q⟩, k⟩
  subst e1
  obtain ⟨w, e, rw'⟩ := repL_one l
  subst e
  obtain ⟨a, ws, rfl, _, l3, h5⟩ := lst_of r1 m h h2
  have hs : SeqAt.shaped (PyData.list (D.pys xs)) = true := dOk_shaped (n := 64) (d := .lst xs) h4 (Nat.le_refl _)
  refine mt_indexD hu pins s σ H _ _ v us Q I rx rv ⟨a, w, y.py, D.pys xs, j, z.py, rfl, rfl, .lst h5 (l3.dp h4), rw'.dp h3, hs, dOk_shaped h3 (by decide), ?_, hz, fun i z' hi e => ?_, k _ _ M H (.refl H) (.int _) m q⟩
  · rw [pys_map, List.getElem?_map, hj]
    rfl
  · rw [pys_map, List.getElem?_map] at e
    cases g : xs[i]? with
    | none => rw [g] at e; cases e
    | some u' =>
      rw [g] at e
      cases e
      exact hno i u' hi g

/-! ### any, all, sum, max, min of lists -/
theorem bls_rep {K : PySem.W.Frag} {H : Hp} : ∀ {ys : List Bool} {vs : List V}, RepL K H (ys.map D.bl) vs → vs = ys.map V.bl
  | [], _, h => by
    cases h
    rfl
  | y :: ys, _, h => by
    cases h with
    | cons h1 h2 =>
      cases h1
      rw [bls_rep h2]
      rfl
theorem ints_rep {K : PySem.W.Frag} {H : Hp} : ∀ {ys : List Int} {vs : List V}, RepL K H (ys.map D.int) vs → vs = ys.map V.int
  | [], _, h => by
    cases h
    rfl
  | y :: ys, _, h => by
    cases h with
    | cons h1 h2 =>
      cases h1
      rw [ints_rep h2]
      rfl
def rAnyL : DCR := fun ds M Q => ∃ (d : D) (bs : List Bool), ds = [d] ∧ dItems d M = some (bs.map D.bl) ∧ d ≠ .tup (bs.map D.bl) ∧ Q (.bl (bs.any id)) M
def rAllL : DCR := fun ds M Q => ∃ (d : D) (bs : List Bool), ds = [d] ∧ dItems d M = some (bs.map D.bl) ∧ d ≠ .tup (bs.map D.bl) ∧ Q (.bl (bs.all id)) M
def rSumL : DCR := fun ds M Q => ∃ (d : D) (ns : List Int), ds = [d] ∧ dItems d M = some (ns.map D.int) ∧ d ≠ .tup (ns.map D.int) ∧ Q (.int ns.sum) M
def rMaxL : DCR := fun ds M Q => ∃ (d : D) (ns : List Int), ds = [d] ∧ dItems d M = some (ns.map D.int) ∧ d ≠ .tup (ns.map D.int) ∧ 0 < ns.length ∧ ∀ n : Int, n ∈ ns → (∀ y, y ∈ ns → y ≤ n) → Q (.int n) M
def rMinL : DCR := fun ds M Q => ∃ (d : D) (ns : List Int), ds = [d] ∧ dItems d M = some (ns.map D.int) ∧ d ≠ .tup (ns.map D.int) ∧ 0 < ns.length ∧ ∀ n : Int, n ∈ ns → (∀ y, y ∈ ns → n ≤ y) → Q (.int n) M
theorem c_any (hc : X.calm = true) : DCall X (.builtin "any") rAnyL := by
  intro pins s σ H vs us Q I r ⟨ds, M, Q', l, m, ⟨d, bs, e, h, h2, q⟩, k⟩
  subst e
  obtain ⟨v, e, rv⟩ := repL_one l
  subst e
  obtain ⟨a, ws, rfl, _, l3, h5⟩ := lst_of rv m h h2
  rw [bls_rep l3] at h5
  exact cr_any hc pins s σ H _ us Q I r ⟨a, bs, rfl, h5, k _ _ M H (.refl H) (.bl _) m q⟩
theorem c_all (hc : X.calm = true) : DCall X (.builtin "all") rAllL := by
  intro pins s σ H vs us Q I r ⟨ds, M, Q', l, m, ⟨d, bs, e, h, h2, q⟩, k⟩
  subst e
  obtain ⟨v, e, rv⟩ := repL_one l
  subst e
  obtain ⟨a, ws, rfl, _, l3, h5⟩ := lst_of rv m h h2
  rw [bls_rep l3] at h5
  exact cr_all hc pins s σ H _ us Q I r ⟨a, bs, rfl, h5, k _ _ M H (.refl H) (.bl _) m q⟩
theorem c_sum (hc : X.calm = true) : DCall X (.builtin "sum") rSumL := by
  intro pins s σ H vs us Q I r ⟨ds, M, Q', l, m, ⟨d, bs, e, h, h2, q⟩, k⟩
  subst e
  obtain ⟨v, e, rv⟩ := repL_one l
  subst e
  obtain ⟨a, ws, rfl, _, l3, h5⟩ := lst_of rv m h h2
  rw [ints_rep l3] at h5
  exact cr_sum hc pins s σ H _ us Q I r ⟨a, bs, rfl, h5, k _ _ M H (.refl H) (.int _) m q⟩
theorem c_max (hc : X.calm = true) : DCall X (.builtin "max") rMaxL := by
  intro pins s σ H vs us Q I r ⟨ds, M, Q', l, m, ⟨d, bs, e, h, h2, h0, q⟩, k⟩
  subst e
  obtain ⟨v, e, rv⟩ := repL_one l
  subst e
  obtain ⟨a, ws, rfl, _, l3, h5⟩ := lst_of rv m h h2
  rw [ints_rep l3] at h5
  exact cr_max hc pins s σ H _ us Q I r ⟨a, bs, rfl, h5, h0, fun n h6 h7 => k _ _ M H (.refl H) (.int _) m (q n h6 h7)⟩
theorem c_min (hc : X.calm = true) : DCall X (.builtin "min") rMinL := by
  intro pins s σ H vs us Q I r ⟨ds, M, Q', l, m, ⟨d, bs, e, h, h2, h0, q⟩, k⟩
  subst e
  obtain ⟨v, e, rv⟩ := repL_one l
  subst e
  obtain ⟨a, ws, rfl, _, l3, h5⟩ := lst_of rv m h h2
  rw [ints_rep l3] at h5
  exact cr_min hc pins s σ H _ us Q I r ⟨a, bs, rfl, h5, h0, fun n h6 h7 => k _ _ M H (.refl H) (.int _) m (q n h6 h7)⟩

/-! ### list(range(..)) -/
def dLRg (te : DTE) : DTE := fun m M Q => te m M fun d M1 => ∃ j : Int, d = .int j ∧ (-1000000000 ≤ j ∧ j ≤ 16777216) ∧ ∀ p, M1 p = none → Q (.ref p) (mput M1 p (.lst (rangeD 0 j.toNat)))
theorem repL_rg {K : PySem.W.Frag} {H : Hp} (j : Int) : RepL K H (rangeD 0 j.toNat) (rgV 0 j) := by
  unfold rangeD rgV
  rw [Int.sub_zero]
  generalize List.range j.toNat = ks
  induction ks with
  | nil => exact .nil
  | cons n ks ih => exact .cons (.int _) ih
theorem d_lrg {p pos p2 pos2 : Pos} (hc : X.calm = true) (hg : Gl X "list") (hm : X.mg "list" = none) (hg2 : Gl X "range") (hm2 : X.mg "range" = none) (ha : DE X a ta) (na : starEach [a] X.env = (false, eval a X.env) :: starEach [] X.env := by rfl)
    (nb : starEach [.Call (.Name "range" p) [a] [] pos] X.env = (false, eval (.Call (.Name "range" p) [a] [] pos) X.env) :: starEach [] X.env := by rfl) : DE X (.Call (.Name "list" p2) [.Call (.Name "range" p) [a] [] pos] [] pos2) (dLRg ta) :=
  imE (pe_listRg hc hg hm (prg_1 hg2 hm2 ha na) nb) fun σ H Q ⟨m, M, Q', r, q, k⟩ => by
    refine ⟨m, M, _, r, q, fun d v M1 H1 g1 r1 m1 ⟨j, e1, ⟨h1, h2⟩, q1⟩ => ?_⟩
    subst e1
    cases r1
    have hsl := sizeLine_eq
    refine ⟨j, rfl, ⟨by omega, by omega, by omega, by omega, by omega⟩, fun p hp => ?_⟩
    exact k _ _ _ _ (g1.trans (.new hp)) (.ref p) (m1.newLst hp (by rw [rgV_length]; omega) (repL_rg j)) (q1 p (m1.free hp))

/-! ### enumerate(a list that stays) -/
def enumD : Nat → List D → List D
  | _, [] => []
  | n, x :: r => .tup [.int n, x] :: enumD (n + 1) r
theorem enumD_len : ∀ (n : Nat) (xs : List D), (enumD n xs).length = xs.length
  | _, [] => rfl
  | n, _ :: r => congrArg (· + 1) (enumD_len (n + 1) r)
theorem enumD_get : ∀ (n : Nat) (xs : List D) (i : Nat), (enumD n xs)[i]? = xs[i]?.map fun x => .tup [.int ((n + i : Nat) : Int), x]
  | _, [], _ => by simp [enumD]
  | n, x :: r, 0 => by simp [enumD]
  | n, x :: r, i + 1 => by
    rw [enumD, List.getElem?_cons_succ, List.getElem?_cons_succ, enumD_get (n + 1) r i, Nat.add_assoc, Nat.add_comm 1 i]
def diEnum (t : DTA) : DTI := fun m M Q => t m M fun ds M1 => ∃ xs, ds = [.lst xs] ∧ Q (enumD 0 xs, none) M1
theorem di_enum {elts : List Expr} {kk : Nat} {tpos : Pos} (hg : Gl X "enumerate") (hm : X.mg "enumerate" = none) (ha : DA X [e] t) (hs : starEach [e] X.env = [(false, eval e X.env)] := by rfl) :
    DI X (.Tuple elts kk tpos) (.Call (.Name "enumerate" p) [e] [] pos) (diEnum t) :=
  imI (pi_enum hg hm ha hs) fun σ H Q ⟨m, M, Q', r, q, k⟩ => by
    refine ⟨m, M, _, r, q, fun ds vs M1 H1 g1 r1 m1 ⟨xs, e1, q1⟩ => ?_⟩
    subst e1
    obtain ⟨v, e2, rv⟩ := repL_one r1
    subst e2
    cases rv with
    | lst hf z l =>
      refine ⟨_, _, rfl, hf.seq, k _ M1 H1 _ g1 m1 q1 ⟨?_, fun i H2 ok hi => ?_, fun i H2 x H3 ok hi y => ?_, fun H2 ok => ?_⟩⟩
      · show (enumD 0 xs).length ≤ sizeLine
        rw [enumD_len, l.length]
        exact z
      · have hi' : i < xs.length := by rw [← enumD_len 0 xs]; exact hi
        obtain ⟨w, e3, _⟩ := l.get (List.getElem?_eq_getElem hi')
        exact ⟨_, w, (hf.grow ok.1).seq, e3⟩
      · obtain ⟨T, x', e3, hT, e4, hx⟩ := y
        subst e3
        subst e4
        obtain ⟨d, e5, rd⟩ := l.get' (hx _ (hf.grow ok.1).seq)
        refine ⟨.new hT, fun M2 rm => rm.new hT, .tup [.int ((0 + i : Nat) : Int), d], ?_, ?_⟩
        · show (enumD 0 xs)[i]? = _
          rw [enumD_get, e5]
          rfl
        · rw [Nat.zero_add]
          exact .tup (.of upd_same) (by show 2 ≤ sizeLine; decide) (.cons (.int _) (.cons (rd.grow (ok.1.trans (.new hT))) .nil))
      · refine ⟨_, (hf.grow ok.1).seq, ?_⟩
        show _ ≤ (enumD 0 xs).length
        rw [enumD_len, l.length]
        exact Nat.le_refl _
end
end DL
namespace DL
open PySem PySem.Spec PyProof.Rows L2
open PySem.W (EachIs AllAlike Sortable dataLe sorted_data alike alikeAll)

/-! ### a module's tuple -/
/-- what the module's name x holds: a tuple that K knows -/
def GlT (K : PySem.W.Frag) (mg : Str → Option Value) (x : Str) (d : D) : Prop := ∃ a, mg x = some (.ref a) ∧ ∀ H, Rep K H d (.ref a)
theorem d_glT {X : Cx} {x : Str} {d : D} {pos : Pos} (hg : Gl X x) (h : GlT X.K X.mg x d) (hd : (x == ("__debug__" : Str)) = false := by decide) : DE X (.Name x pos) (dC d) := by
  obtain ⟨a, h1, h2⟩ := h
  exact imE (pe_glob (v := .ref a) hg h1 rfl hd) fun σ H Q ⟨m, M, Q', r, q, k⟩ => k d _ M H (.refl H) (h2 H) r.mem q
theorem glT_strs {K : PySem.W.Frag} {mg : Str → Option Value} {x : Str} {a : Addr} {od : Option Addr} {its : Array Value} {n : Nat} {sl : Array (Option Value)} {ys : List Str} (h1 : mg x = some (.ref a)) (h2 : K.lookup a = some ⟨.type "tuple", od, .seq its n, sl⟩)
    (h3 : its.size ≤ sizeLine) (h4 : Vals (ys.map V.str) its.toList) : GlT K mg x (.tup (ys.map D.str)) := by
  refine ⟨a, h1, fun H => .tup (.inr ⟨_, its, n, h2, rfl, rfl, h3, h4⟩) ?_ ?_⟩
  · have := h4.length
    rw [this, Array.length_toList]
    exact h3
  · clear h4
    induction ys with
    | nil => exact .nil
    | cons y ys ih => exact .cons (.str y) ih

/-! ### sorted(a list of data) -/
section
variable {X : Cx}
def srtD (xs : List D) : List D := xs.mergeSort (dataLe false D.py)
theorem srtD_perm (xs : List D) : (srtD xs).Perm xs := List.mergeSort_perm _ _
def rSortD : DCR := fun ds M Q => ∃ d xs, ds = [d] ∧ dItems d M = some xs ∧ d ≠ .tup xs ∧ xs.all (dOk 32) = true ∧ AllAlike (xs.map D.py) ∧ Sortable (xs.map D.py) ∧ ∀ p, M p = none → Q (.ref p) (mput M p (.lst (srtD xs)))
theorem reads_each {pins : List (Addr × Obj)} {σ : SL} {H : Hp} {s : Shared} (I : Inv X pins σ H s) : ∀ {xs : List D} {vs : List V} {its : List Value}, RepL X.K H xs vs → Vals vs its → xs.all (dOk 32) = true →
    EachIs (fun v b => ∃ as, Reads s.heap v (D.py b) as) its xs
  | _, _, _, .nil, .nil, _ => .nil
  | _, _, _, .cons h1 h2, .cons r1 r2, h => by
    rw [List.all_cons, Bool.and_eq_true] at h
    exact .cons (Dp.reads I _ _ _ (h1.dp h.1) r1) (reads_each I h2 r2 h.2)
theorem rel_each {K : PySem.W.Frag} {H : Hp} : ∀ {xs : List D} {vs : List V} {its : List Value}, RepL K H xs vs → Vals vs its → EachIs (fun v b => ∃ y, RelV y v ∧ Rep K H b y) its xs
  | _, _, _, .nil, .nil => .nil
  | _, _, _, .cons h1 h2, .cons r1 r2 => .cons ⟨_, r1, h1⟩ (rel_each h2 r2)
theorem each_rel {K : PySem.W.Frag} {H : Hp} : ∀ {xs : List D} {its : List Value}, EachIs (fun v b => ∃ y, RelV y v ∧ Rep K H b y) its xs → ∃ vs, Vals vs its ∧ RepL K H xs vs
  | _, _, .nil => ⟨[], .nil, .nil⟩
  | _, _, .cons ⟨y, h1, h2⟩ t => by
    obtain ⟨vs, h3, h4⟩ := each_rel t
    exact ⟨y :: vs, .cons h1 h3, .cons h2 h4⟩
theorem c_sortD (hu : X.A.units + 40 < cLine) : DCall X (.builtin "sorted") rSortD := by
  intro pins s σ H vs us Q I r ⟨ds, M, Q', l, m, ⟨d, xs, e, h, h2, h3, h4, h5, q⟩, k⟩
  subst e
  obtain ⟨v, e, rv⟩ := repL_one l
  subst e
  obtain ⟨a, ws, rfl, z, l3, h6⟩ := lst_of rv m h h2
  obtain ⟨its, r2, pl, _⟩ := I.list h6
  rw [Vals.ref1 r]
  have hz : xs.length ≤ sizeLine := by rw [l3.length]; exact z
  refine sorted_data (vs := its) (bs := xs) (enc := D.py) pl.isList (rel_each l3 r2) (reads_each I l3 r2 h3) h4 h5 hz (fun b hb => ?_) fun out ho hr => ?_
  · have := (dOk_lay 32 b (List.all_eq_true.mp h3 b hb)).2
    omega
  · obtain ⟨vs', h7, h8⟩ := each_rel hr
    obtain ⟨ep, he'⟩ := PyProof.Rows.sortedAll_at s.heap its out.toArray
    have hlen : vs'.length ≤ sizeLine := by rw [← h8.length, List.length_mergeSort]; exact hz
    have hp := I.hok.fresh (Nat.le_succ s.heap.objs.size)
    refine ⟨.ref _, upd H (s.heap.objs.size + 1) (.lst vs'), I.laid (t' := s.toks) (fun _ _ => PyProof.Rows.sortedAll_old) (Nat.le_succ _) ⟨hlen, out, ep, h7, he'⟩, rfl, ?_⟩
    exact k _ _ _ _ (.new hp) (.ref _) (m.newLst hp hlen h8) (q _ (m.free hp))
end

/-! ### comprehensions with two clauses -/
def dLcIn (src : Src) (g : DTG) (tt : DTT) (te : DTE) (m0 : DSt) (p : Addr) (Nx : List D → DM → Prop) : List D → List D → DM → Prop
  | [], acc, M => SrcV src M ∧ M p = some (.lst acc) ∧ Nx acc M
  | d :: ds, acc, M => SrcV src M ∧ g d m0 M fun m1 M1 => tt m1 M1 fun b M2 =>
      if b = true then te m1 M2 fun y M3 => M3 p = some (.lst acc) ∧ acc.length < 16777216 ∧ dLcIn src g tt te m0 p Nx ds (acc ++ [y]) (mput M3 p (.lst (acc ++ [y])))
      else dLcIn src g tt te m0 p Nx ds acc M2
def dLcOut (src : Src) (g : DTG) (tt : DTT) (t1 : DTI) (g1 : DTG) (tt1 : DTT) (te : DTE) (ws1 : List Nat) (m0 : DSt) (p : Addr) (Qd : List D → DM → Prop) : List D → List D → DM → Prop
  | [], acc, M => SrcV src M ∧ M p = some (.lst acc) ∧ Qd acc M
  | d :: ds, acc, M => SrcV src M ∧ g d m0 M fun m1 M1 => tt m1 M1 fun b M2 =>
      if b = true then t1 m1 M2 fun src1 M3 => src1.1.length ≤ sizeLine → dLcIn src1 g1 tt1 te (dwipe m1 ws1) p (fun acc' M' => dLcOut src g tt t1 g1 tt1 te ws1 m0 p Qd ds acc' M') src1.1 acc M3
      else dLcOut src g tt t1 g1 tt1 te ws1 m0 p Qd ds acc M2
def dLc2 (t : DTI) (g : DTG) (tt : DTT) (t1 : DTI) (g1 : DTG) (tt1 : DTT) (te : DTE) (vs ws1 : List Nat) : DTE := fun m M Q => t m M fun src M1 => src.1.length ≤ sizeLine → ∀ p, M1 p = none → dLcOut src g tt t1 g1 tt1 te ws1 (dwipe m vs) p (fun _ M2 => Q (.ref p) M2) src.1 [] (mput M1 p (.lst []))
def dLc2F (t : DTI) (g : DTG) (tt : DTT) (t1 : DTI) (g1 : DTG) (tt1 : DTT) (te : DTE) (vs ws1 : List Nat) : DTE := fun m M Q => t m M fun src M1 => src.1.length ≤ sizeLine → ∀ p, M1 p = none → dLcOut src g tt t1 g1 tt1 te ws1 (dwipe m vs) p (fun acc M2 => Q (.lst acc) (mdel M2 p)) src.1 [] (mput M1 p (.lst []))
section
variable {X : Cx} {elt tg iter tg1 iter1 : Expr} {ifs ifs1 : List Expr} {scope : Scope} {own : List (Str × Nat)} {pos : Pos} {t t1 : DTI} {g g1 : DTG} {tt tt1 : DTT} {te : DTE} {ws ws1 : List Nat}
theorem lc2_up {K : PySem.W.Frag} {vs : List Nat} (hsub : ∀ i ∈ ws, i ∈ vs) {σ : SL} {H : Hp} {Q : VK} {Qf : Addr → List D → DM → Prop}
    (fin : ∀ p acc ws M2 H2, Grow H H2 → RM K H2 M2 → H2 p = some (.lst ws) → ws.length ≤ sizeLine → RepL K H2 acc ws → M2 p = some (.lst acc) → Qf p acc M2 → Q (.ref p) H2)
    (m : DSt) (M : DM) (r : R K m M σ H) (q : t m M fun src M1 => src.1.length ≤ sizeLine → ∀ p, M1 p = none → dLcOut src g tt t1 g1 tt1 te ws1 (dwipe m vs) p (Qf p) src.1 [] (mput M1 p (.lst []))) :
    tLc2 (upI K t) (upG K ws g) (upT K tt) (upI K t1) (upG K ws1 g1) (upT K tt1) (upE K te) vs ws1 σ H Q := by
  refine ⟨m, M, _, r, q, fun src M1 H1 J g0 m1 q1 st p np => ?_⟩
  have q2 := q1 st.small p (m1.free np)
  have g2 : Grow H1 (upd H1 p (.lst [])) := .new np
  refine ⟨fun i n H2 => i + n = src.1.length ∧ Grow H1 H2 ∧ ∃ acc M2, RM K H2 M2 ∧ dLcOut src g tt t1 g1 tt1 te ws1 (dwipe m vs) p (Qf p) (src.1.drop i) acc M2,
    ⟨src.1.length, by omega, g2, [], _, m1.newLst np (Nat.zero_le _) .nil, q2⟩, ?_⟩
  rintro i n H2 ⟨hl, g3, acc, M2, m2, q3⟩
  have r2 : R K (dwipe m vs) M2 (wipe σ vs) H2 := (r.wipe vs).grow (g0.trans g3) m2
  by_cases hlt : i < src.1.length
  · rw [List.drop_eq_getElem_cons hlt] at q3
    obtain ⟨sv, q3⟩ := q3
    have so := sv.ok g3 m2
    refine .inr ⟨st.go i H2 so hlt, fun H3 => Grow H1 H3 ∧ ∃ acc M2, RM K H3 M2 ∧ dLcOut src g tt t1 g1 tt1 te ws1 (dwipe m vs) p (Qf p) (src.1.drop (i + 1)) acc M2,
      fun H3 ⟨g4, z⟩ => ⟨n - 1, by omega, by omega, g4, z⟩, fun x H3 y => ?_⟩
    obtain ⟨g4, k4, d, e4, rd⟩ := st.yld i H2 x H3 so hlt y
    have ed : d = src.1[i] := by
      rw [List.getElem?_eq_getElem hlt] at e4
      exact (Option.some.inj e4).symm
    subst ed
    refine ⟨_, _, M2, _, rd, r2.grow g4 (k4 _ m2), q3, fun m5 M5 σ5 H5 g5 r5 o5 q5 => ⟨wipe_off o5 hsub, ?_⟩⟩
    refine ⟨m5, M5, _, r5, q5, fun b M6 H6 g6 m6 q6 => ?_⟩
    have g06 : Grow H1 H6 := ((g3.trans g4).trans g5).trans g6
    have r6 := r5.grow g6 m6
    cases b with
    | true =>
      refine ⟨m5, M6, _, r6, q6, fun src1 M7 H7 J1 g7 m7 q7 st1 => ?_⟩
      have q8 := q7 st1.small
      refine ⟨fun j n H8 => j + n = src1.1.length ∧ Grow H7 H8 ∧ ∃ acc M8, RM K H8 M8 ∧ dLcIn src1 g1 tt1 te (dwipe m5 ws1) p (fun acc' M' => dLcOut src g tt t1 g1 tt1 te ws1 (dwipe m vs) p (Qf p) (src.1.drop (i + 1)) acc' M') (src1.1.drop j) acc M8,
        ⟨src1.1.length, by omega, .refl _, acc, M7, m7, q8⟩, ?_⟩
      rintro j n1 H8 ⟨hl1, g8, acc8, M8, m8, q9⟩
      have r8 : R K (dwipe m5 ws1) M8 (wipe σ5 ws1) H8 := (r6.wipe ws1).grow (g7.trans g8) m8
      by_cases hlt1 : j < src1.1.length
      · rw [List.drop_eq_getElem_cons hlt1] at q9
        obtain ⟨sv1, q9⟩ := q9
        have so1 := sv1.ok g8 m8
        refine .inr ⟨st1.go j H8 so1 hlt1, fun H9 => Grow H7 H9 ∧ ∃ acc M8, RM K H9 M8 ∧ dLcIn src1 g1 tt1 te (dwipe m5 ws1) p (fun acc' M' => dLcOut src g tt t1 g1 tt1 te ws1 (dwipe m vs) p (Qf p) (src.1.drop (i + 1)) acc' M') (src1.1.drop (j + 1)) acc M8,
          fun H9 ⟨g9, z⟩ => ⟨n1 - 1, by omega, by omega, g9, z⟩, fun x1 H9 y1 => ?_⟩
        obtain ⟨g9, k9, d1, e9, rd1⟩ := st1.yld j H8 x1 H9 so1 hlt1 y1
        have ed1 : d1 = src1.1[j] := by
          rw [List.getElem?_eq_getElem hlt1] at e9
          exact (Option.some.inj e9).symm
        subst ed1
        refine ⟨_, _, M8, _, rd1, r8.grow g9 (k9 _ m8), q9, fun mA MA σA HA gA rA oA qA => ⟨wipe_off oA (fun i h => h), ?_⟩⟩
        refine ⟨mA, MA, _, rA, qA, fun b1 MB HB gB mB qB => ?_⟩
        have g0B : Grow H7 HB := ((g8.trans g9).trans gA).trans gB
        cases b1 with
        | true =>
          refine ⟨mA, MB, _, rA.grow gB mB, qB, fun y v MC HC gC rv mC ⟨eC, hC, qC⟩ => ?_⟩
          obtain ⟨us, h8, z8, l8⟩ := mC.lst eC
          have hsz : us.length < sizeLine := by rw [← l8.length, sizeLine_eq]; exact hC
          exact ⟨us, h8, hsz, (g0B.trans gC).trans (.put h8), _, _, mC.putLst h8 (by rw [List.length_append]; exact hsz) (l8.append (.one rv)), qC⟩
        | false => exact ⟨g0B, acc8, MB, mB, qB⟩
      · have e : j = src1.1.length := by omega
        subst e
        rw [List.drop_length] at q9
        exact .inl ⟨st1.stop H8 (q9.1.ok g8 m8), (g06.trans g7).trans g8, acc8, M8, m8, q9.2.2⟩
    | false => exact ⟨g06, acc, M6, m6, q6⟩
  · have e : i = src.1.length := by omega
    subst e
    rw [List.drop_length] at q3
    obtain ⟨us, h8, z8, l8⟩ := m2.lst q3.2.1
    exact .inl ⟨st.stop H2 (q3.1.ok g3 m2), fin p acc us M2 H2 (g0.trans g3) m2 h8 z8 l8 q3.2.1 q3.2.2⟩
theorem d_lc2F (hc : X.calm = true) (hN : X.N.Nodup) (hi : DI X tg iter t) (ok : BlkOk X.N X.env.scope scope own) (hsub : ∀ i ∈ ws, i ∈ own.map (·.2)) (hsub1 : ∀ i ∈ ws1, i ∈ own.map (·.2))
    (hg : ∀ (s : Shared) (H : Hp) (C : Addr) (cl : List (Str × Addr)) (fp : List Addr), DG (X.blk s H scope (compEnvC scope cl C X.env) fp) ws tg g)
    (ht : ∀ (s : Shared) (H : Hp) (C : Addr) (cl : List (Str × Addr)) (fp : List Addr), DPTs (X.blk s H scope (compEnvC scope cl C X.env) fp) ifs tt)
    (hi1 : ∀ (s : Shared) (H : Hp) (C : Addr) (cl : List (Str × Addr)) (fp : List Addr), DI (X.blk s H scope (compEnvC scope cl C X.env) fp) tg1 iter1 t1)
    (hg1 : ∀ (s : Shared) (H : Hp) (C : Addr) (cl : List (Str × Addr)) (fp : List Addr), DG (X.blk s H scope (compEnvC scope cl C X.env) fp) ws1 tg1 g1)
    (ht1 : ∀ (s : Shared) (H : Hp) (C : Addr) (cl : List (Str × Addr)) (fp : List Addr), DPTs (X.blk s H scope (compEnvC scope cl C X.env) fp) ifs1 tt1)
    (he : ∀ (s : Shared) (H : Hp) (C : Addr) (cl : List (Str × Addr)) (fp : List Addr), DE (X.blk s H scope (compEnvC scope cl C X.env) fp) elt te)
    (hs : ∀ x, foldedSetIterable iter X.env x = pure x := by intro _; rfl) (hs1 : ∀ env x, foldedSetIterable iter1 env x = pure x := by intro _ _; rfl) :
    DE X (.ListComp elt [⟨tg, iter, ifs, 0⟩, ⟨tg1, iter1, ifs1, 0⟩] scope pos) (dLc2F t g tt t1 g1 tt1 te (own.map (·.2)) ws1) :=
  imE (pe_fz (pe_lc2 hc hN hi ok hsub1 hg ht hi1 hg1 ht1 he hs hs1)) fun σ H Q ⟨m, M, Q', r, q, k⟩ =>
    lc2_up (Qf := fun p acc M2 => Q' (.lst acc) (mdel M2 p)) hsub (fun p acc ws M2 H2 g2 m2 h8 z8 l8 _ q2 =>
      ⟨p, ws, rfl, h8, fun o => k _ _ _ _ (g2.trans (.put h8)) (.lst (.inl ⟨o, upd_same⟩) z8 (l8.grow (.put h8))) (m2.frz h8) q2⟩) m M r q
/-- name = [.. for .. for ..]: the list is frozen behind it -/
theorem ds_setLc2F {y : Str} {py spos : Pos} {i : Nat} (hc : X.calm = true) (hN : X.N.Nodup) (hy : X.N[i]? = some y) (hyl : X.env.scope.names.lookup y = some .local)
    (hsw : swapsWith (.ListComp elt [⟨tg, iter, ifs, 0⟩, ⟨tg1, iter1, ifs1, 0⟩] scope pos) (some (.Name y py)) spos.line X.env = pure true) (hi : DI X tg iter t) (ok : BlkOk X.N X.env.scope scope own) (hsub : ∀ i ∈ ws, i ∈ own.map (·.2)) (hsub1 : ∀ i ∈ ws1, i ∈ own.map (·.2))
    (hg : ∀ (s : Shared) (H : Hp) (C : Addr) (cl : List (Str × Addr)) (fp : List Addr), DG (X.blk s H scope (compEnvC scope cl C X.env) fp) ws tg g)
    (ht : ∀ (s : Shared) (H : Hp) (C : Addr) (cl : List (Str × Addr)) (fp : List Addr), DPTs (X.blk s H scope (compEnvC scope cl C X.env) fp) ifs tt)
    (hi1 : ∀ (s : Shared) (H : Hp) (C : Addr) (cl : List (Str × Addr)) (fp : List Addr), DI (X.blk s H scope (compEnvC scope cl C X.env) fp) tg1 iter1 t1)
    (hg1 : ∀ (s : Shared) (H : Hp) (C : Addr) (cl : List (Str × Addr)) (fp : List Addr), DG (X.blk s H scope (compEnvC scope cl C X.env) fp) ws1 tg1 g1)
    (ht1 : ∀ (s : Shared) (H : Hp) (C : Addr) (cl : List (Str × Addr)) (fp : List Addr), DPTs (X.blk s H scope (compEnvC scope cl C X.env) fp) ifs1 tt1)
    (he : ∀ (s : Shared) (H : Hp) (C : Addr) (cl : List (Str × Addr)) (fp : List Addr), DE (X.blk s H scope (compEnvC scope cl C X.env) fp) elt te)
    (hs : ∀ x, foldedSetIterable iter X.env x = pure x := by intro _; rfl) (hs1 : ∀ env x, foldedSetIterable iter1 env x = pure x := by intro _ _; rfl) (hil : i < X.N.length := by exact Nat.le_of_ble_eq_true rfl) :
    DS X (.Assign [.Name y py] (.ListComp elt [⟨tg, iter, ifs, 0⟩, ⟨tg1, iter1, ifs1, 0⟩] scope pos) spos) (dSet i (dLc2F t g tt t1 g1 tt1 te (own.map (·.2)) ws1)) := by
  refine ⟨fun pins s σ H Z I h => (ps_after i (ps_setLc2 (wi := upI X.K t) (g := upG X.K ws g) (tt := upT X.K tt) (wi1 := upI X.K t1) (g1 := upG X.K ws1 g1) (tt1 := upT X.K tt1) (te := upE X.K te) hc hN hy hyl hsw hi ok hsub1 hg ht hi1 hg1 ht1 he hs hs1)).run pins s σ H Z I ?_⟩
  obtain ⟨m, M, Z', r, q, k⟩ := h
  have hσ : i < σ.length := by rw [I.len]; exact hil
  refine lc2_up (Qf := fun p acc M2 => Z'.nx (m.set i (some (.lst acc))) (mdel M2 p)) hsub (fun p acc ws M2 H2 g2 m2 h8 z8 l8 _ q2 => ?_) m M r q
  refine ⟨p, ws, List.getElem?_set_self hσ, h8, fun o => k.nx _ _ _ _ (g2.trans (.put h8)) ?_ q2⟩
  exact (r.grow (g2.trans (.put h8)) (m2.frz h8)).set (.lst (.inl ⟨o, upd_same⟩) z8 (l8.grow (.put h8)))
end
end DL
namespace DL
open PySem PySem.Spec PyProof.Rows L2
/-! ### readings, by what comes -/
theorem dAdd_ii {i j : Int} {M : DM} {Q : DVK} : dAdd (.int i) (.int j) M Q = Q (.int (i + j)) M := rfl
theorem dAdd_ss {i j : Str} {M : DM} {Q : DVK} : dAdd (.str i) (.str j) M Q = (i.length + j.length ≤ 16777216 ∧ Q (.str (i ++ j)) M) := rfl
theorem dAdd_tt {i j : List D} {M : DM} {Q : DVK} : dAdd (.tup i) (.tup j) M Q = (i.length + j.length ≤ 16777216 ∧ Q (.tup (i ++ j)) M) := rfl
theorem dMulA_ii {i j : Int} {M : DM} {Q : DVK} : dMulA (.int i) (.int j) M Q = (CMulA i j ∧ Q (.int (i * j)) M) := rfl
theorem dMulA_si {z : Str} {k : Int} {M : DM} {Q : DVK} : dMulA (.str z) (.int k) M Q = ((0 ≤ k ∧ k ≤ 1000000) ∧ z.length * k.toNat ≤ 16777216 ∧ Q (.str (srep z k.toNat)) M) := rfl
theorem dIxS_str {z : Str} {y : D} {M : DM} {Q : DVK} : dIxS (.str z) y M Q = ∃ i c, y = .int i ∧ z.length ≤ 16777216 ∧ sgn z i = some c ∧ Q (.str c) M := rfl
theorem dIxS_tup {z : List D} {y : D} {M : DM} {Q : DVK} : dIxS (.tup z) y M Q = dIx (.tup z) y M Q := rfl
theorem dIxS_lst {z : List D} {y : D} {M : DM} {Q : DVK} : dIxS (.lst z) y M Q = dIx (.lst z) y M Q := rfl
theorem dIxS_ref {z : Addr} {y : D} {M : DM} {Q : DVK} : dIxS (.ref z) y M Q = dIx (.ref z) y M Q := rfl
theorem hu_40 {k : Nat} {A : Around} (hr : Room k A) : A.units + 40 < cLine := by
  have := hr.units
  omega
end DL
namespace DL
open PySem PySem.Spec PyProof.Rows L2

/-! ### plain data: == is identity -/
mutual
def pln : D → Bool
  | .non => true
  | .int _ => true
  | .str _ => true
  | .tup xs => plns xs
  | .lst xs => plns xs
  | .bl _ => false
  | .dct _ => false
  | .dmt _ _ => false
  | .ref _ => false
  | .ty _ => false
def plns : List D → Bool
  | [] => true
  | x :: xs => pln x && plns xs
end
theorem plns_iff : ∀ {xs : List D}, plns xs = true ↔ ∀ x ∈ xs, pln x = true
  | [] => by simp [plns]
  | x :: xs => by simp [plns, plns_iff (xs := xs)]
mutual
theorem eqv_pl : ∀ (x y : D), pln x = true → pln y = true → (D.eqv x y = true ↔ x = y)
  | .non, y, _, hy => by cases y <;> simp_all [D.eqv, D.py, PyData.eqv, pln]
  | .int i, y, _, hy => by cases y <;> simp_all [D.eqv, D.py, PyData.eqv, pln]
  | .str i, y, _, hy => by cases y <;> simp_all [D.eqv, D.py, PyData.eqv, pln]
  | .tup xs, .tup ys, hx, hy => by
    have h := eqvs_pl xs ys (by simpa [pln] using hx) (by simpa [pln] using hy)
    simpa [D.eqv, D.py, PyData.eqv] using h
  | .lst xs, .lst ys, hx, hy => by
    have h := eqvs_pl xs ys (by simpa [pln] using hx) (by simpa [pln] using hy)
    simpa [D.eqv, D.py, PyData.eqv] using h
  | .tup xs, .non, _, hy => by simp_all [D.eqv, D.py, PyData.eqv, pln]
  | .tup xs, .bl _, _, hy => by simp_all [D.eqv, D.py, PyData.eqv, pln]
  | .tup xs, .int _, _, hy => by simp_all [D.eqv, D.py, PyData.eqv, pln]
  | .tup xs, .str _, _, hy => by simp_all [D.eqv, D.py, PyData.eqv, pln]
  | .tup xs, .lst _, _, hy => by simp_all [D.eqv, D.py, PyData.eqv, pln]
  | .tup xs, .dct _, _, hy => by simp_all [pln]
  | .tup xs, .dmt _ _, _, hy => by simp_all [pln]
  | .tup xs, .ref _, _, hy => by simp_all [pln]
  | .tup xs, .ty _, _, hy => by simp_all [pln]
  | .lst xs, .non, _, hy => by simp_all [D.eqv, D.py, PyData.eqv, pln]
  | .lst xs, .bl _, _, hy => by simp_all [D.eqv, D.py, PyData.eqv, pln]
  | .lst xs, .int _, _, hy => by simp_all [D.eqv, D.py, PyData.eqv, pln]
  | .lst xs, .str _, _, hy => by simp_all [D.eqv, D.py, PyData.eqv, pln]
  | .lst xs, .tup _, _, hy => by simp_all [D.eqv, D.py, PyData.eqv, pln]
  | .lst xs, .dct _, _, hy => by simp_all [pln]
  | .lst xs, .dmt _ _, _, hy => by simp_all [pln]
  | .lst xs, .ref _, _, hy => by simp_all [pln]
  | .lst xs, .ty _, _, hy => by simp_all [pln]
  | .bl _, _, hx, _ => by simp [pln] at hx
  | .dct _, _, hx, _ => by simp [pln] at hx
  | .dmt _ _, _, hx, _ => by simp [pln] at hx
  | .ref _, _, hx, _ => by simp [pln] at hx
  | .ty _, _, hx, _ => by simp [pln] at hx
theorem eqvs_pl : ∀ (xs ys : List D), plns xs = true → plns ys = true → (PyData.eqvAll (D.pys xs) (D.pys ys) = true ↔ xs = ys)
  | [], [], _, _ => by simp [D.pys, PyData.eqvAll]
  | [], y :: ys, _, _ => by simp [D.pys, PyData.eqvAll]
  | x :: xs, [], _, _ => by simp [D.pys, PyData.eqvAll]
  | x :: xs, y :: ys, hx, hy => by
    rw [plns, Bool.and_eq_true] at hx hy
    have h1 := eqv_pl x y hx.1 hy.1
    have h2 := eqvs_pl xs ys hx.2 hy.2
    rw [D.eqv] at h1
    simp [D.pys, PyData.eqvAll, h1, h2]
end
theorem eqv_ne {x y : D} (hx : pln x = true) (hy : pln y = true) (h : x ≠ y) : D.eqv x y = false := by
  cases e : D.eqv x y with
  | false => rfl
  | true => exact absurd ((eqv_pl x y hx hy).mp e) h
theorem any_eqv {x : D} {ys : List D} (hx : pln x = true) (hy : plns ys = true) : (ys.any fun z => D.eqv z x) = true ↔ x ∈ ys := by
  rw [List.any_eq_true]
  refine ⟨fun ⟨z, hz, e⟩ => ?_, fun h => ⟨x, h, (eqv_pl x x hx hx).mpr rfl⟩⟩
  have := (eqv_pl z x (plns_iff.mp hy z hz) hx).mp e
  exact this ▸ hz
/-- x in words -/
theorem any_strs (x : Str) (ys : List Str) : ((ys.map D.str).any fun z => D.eqv z (.str x)) = decide (x ∈ ys) := by
  induction ys with
  | nil => rfl
  | cons y ys ih =>
    rw [List.map_cons, List.any_cons, ih, eqv_str]
    by_cases h : y = x
    · simp [h]
    · simp [h, Ne.symm h]

/-! ### heaps -/
theorem MLe.none {M N : DM} {a : Addr} (l : MLe M N) (h : N a = none) : M a = none := by
  cases e : M a with
  | none => rfl
  | some o => rw [l a o e] at h; cases h
theorem MLe.del {M N : DM} {a : Addr} (l : MLe M N) (h : M a = Option.none) : MLe M (mdel N a) := fun b o e => by
  have hb : b ≠ a := fun z => by rw [z, h] at e; cases e
  unfold mdel
  rw [if_neg hb]
  exact l b o e
theorem mput_swap {M : DM} {p q : Addr} {o o' l : DO} (h : p ≠ q) : mput (mput (mput M p o) q l) p o' = mput (mput M p o') q l := by
  rw [mput_comm h, mput_mput, mput_comm h.symm]
theorem mput_fresh {M : DM} {p q : Addr} {o : DO} (h : p ≠ q) (hp : M q = none) : mput M p o q = none := by
  rw [mput_ne h.symm]
  exact hp

/-! ### comprehensions with two clauses -/
section
variable {src : Src} {g g1 : DTG} {tt tt1 : DTT} {t1 : DTI} {te : DTE} {ws1 : List Nat} {m0 : DSt} {p : Addr} {M1 : DM}
theorem lcIn_map {β : Type} (e : β → D) (f : β → D) {Nx : List D → DM → Prop} (sv : SrcV src M1) (hp : M1 p = none) : ∀ (xs : List β) (step : ∀ x ∈ xs, ∀ M, MLe M1 M → ∀ C1 : D → DM → Prop, C1 (f x) M → g (e x) m0 M fun m1 M1 => te m1 M1 C1)
    (acc : List D), acc.length + xs.length ≤ 16777216 → Nx (acc ++ xs.map f) (mput M1 p (.lst (acc ++ xs.map f))) → dLcIn src g dYes te m0 p Nx (xs.map e) acc (mput M1 p (.lst acc))
  | [], _, acc, _, h => ⟨fun a e => MLe.put (.refl M1) hp a _ (sv a e), mput_same, by simpa using h⟩
  | x :: xs, step, acc, hl, h => by
    rw [List.length_cons] at hl
    refine ⟨fun a e => MLe.put (.refl M1) hp a _ (sv a e), step x (by simp) _ (MLe.put (.refl M1) hp) _ ⟨mput_same, by omega, ?_⟩⟩
    rw [mput_mput]
    refine lcIn_map e f sv hp xs (fun d' h' => step d' (by simp [h'])) _ (by rw [List.length_append, List.length_singleton]; omega) ?_
    simpa using h
theorem lcOut_map {α : Type} (e : α → D) (F : α → List D) {Qd : List D → DM → Prop} (sv : SrcV src M1) (hp : M1 p = none) : ∀ (xs : List α)
    (step : ∀ x ∈ xs, ∀ (acc : List D) (Cn : List D → DM → Prop), acc.length + (F x).length ≤ 16777216 → Cn (acc ++ F x) (mput M1 p (.lst (acc ++ F x))) → g (e x) m0 (mput M1 p (.lst acc)) fun m1 M2 => tt m1 M2 fun b M3 =>
      if b = true then t1 m1 M3 fun src1 M4 => src1.1.length ≤ sizeLine → dLcIn src1 g1 tt1 te (dwipe m1 ws1) p Cn src1.1 acc M4 else Cn acc M3)
    (acc : List D), acc.length + (xs.flatMap F).length ≤ 16777216 → Qd (acc ++ xs.flatMap F) (mput M1 p (.lst (acc ++ xs.flatMap F))) → dLcOut src g tt t1 g1 tt1 te ws1 m0 p Qd (xs.map e) acc (mput M1 p (.lst acc))
  | [], _, acc, _, h => ⟨fun a e => MLe.put (.refl M1) hp a _ (sv a e), mput_same, by simpa using h⟩
  | x :: xs, step, acc, hl, h => by
    rw [List.flatMap_cons, List.length_append] at hl
    refine ⟨fun a e => MLe.put (.refl M1) hp a _ (sv a e), step x (by simp) acc _ (by omega) ?_⟩
    refine lcOut_map e F sv hp xs (fun d' h' => step d' (by simp [h'])) _ (by rw [List.length_append]; omega) ?_
    rw [List.flatMap_cons] at h
    simpa using h
end
/-- loops: what is left of a list, with what is gathered -/
theorem flat_len {α β : Type} (f : α → List β) (n : Nat) : ∀ xs : List α, (∀ x ∈ xs, (f x).length ≤ n) → (xs.flatMap f).length ≤ n * xs.length
  | [], _ => by simp
  | x :: xs, h => by
    rw [List.flatMap_cons, List.length_append, List.length_cons, Nat.mul_succ]
    have := flat_len f n xs fun y hy => h y (by simp [hy])
    have := h x (by simp)
    omega
/-! ### texts -/
abbrev SS (cs : List Nat) : Str := ⟨cs.toArray⟩
theorem join_one (cs : List Nat) : Txt.join "" (cs.map fun c => SS [c]) = SS cs := by
  have z : ∀ cs : List Nat, TL.tl (Str.join "" (cs.map fun c => SS [c])) = cs := by
    intro cs
    rw [TL.tl_join]
    have e0 : TL.tl ("" : Str) = [] := by decide +kernel
    rw [e0]
    induction cs with
    | nil => rfl
    | cons c cs ih =>
      cases cs with
      | nil => rfl
      | cons d r =>
        show [c] ++ ([] ++ TL.joinL [] _) = _
        rw [show TL.joinL [] (TL.tl (SS [d]) :: List.map TL.tl (List.map (fun c => SS [c]) r)) = d :: r from ih]
        rfl
  rw [TL.join_eq]
  exact TL.ext_tl (z cs)
theorem len_one (cs : List Nat) : ((cs.map fun c => SS [c]).map (·.length)).sum = cs.length := by
  induction cs with
  | nil => rfl
  | cons c cs ih =>
    rw [List.map_cons, List.map_cons, List.sum_cons, ih, List.length_cons]
    show 1 + _ = _
    omega
end DL
/-! enumerate(a tuple); slices of texts. -/
namespace DL
open PySem PySem.Spec PyProof.Rows L2
section
variable {prog : Program} {w : World} {A : Around} {E : Value → Shared → Prop} {s : Shared}
theorem nextOf_tup {cu tp : Addr} {i : Nat} {its : Array Value} {u : Value} {Q : Value → Shared → Prop} (hc : s.heap.IsTupleIter cu tp i) (ht : s.heap.IsTuple tp its) (hu : its[i]? = some u)
    (hQ : ∀ h', h'.IsTupleIter cu tp (i + 1) → Heap.SameBut cu s.heap h' → Q u { s with heap := h' }) : wpAny (model prog w) A (Builtin.SmallTypes.nextOf (.ref cu)) Q E s := by
  obtain ⟨ob, go, gc, gd⟩ := id hc
  obtain ⟨ot, got, _, nt, gdt⟩ := ht
  unfold Builtin.SmallTypes.nextOf
  refine wpAny_bind (wpAny_callSpecial?_slot (name := Str.ofString "__next__") hc.typeIs F.slot_tuple_iterator_next (wpAny_call_entry F.slot_tuple_iterator_next hc.typeIs F.entry_tuple_iterator_next ?_ (F.args_tuple_iterator_next_1 _)))
  show wpAny _ _ (field (.ref cu) 0 >>= _) _ _ s
  refine wpAny_bind (wpAny_field go gd (x := .ref tp) rfl ?_)
  show wpAny _ _ (if (Value.ref tp == Value.none) = true then _ else _) _ _ s
  rw [if_neg (show ¬ ((Value.ref tp == Value.none) = true) from Bool.false_ne_true)]
  show wpAny _ _ (field (.ref cu) 1 >>= _) _ _ s
  refine wpAny_bind (wpAny_field go gd (x := .int i 0) rfl ?_)
  show wpAny _ _ (seqItems? (.ref tp) >>= _) _ _ s
  refine wpAny_bind (wpAny_seqItems got gdt ?_)
  simp only [Int.toNat_natCast, hu]
  refine wpAny_bind (wpAny_setField go gd (by simp) (wpAny_pure ⟨u, rfl, wpAny_pure (hQ _ ?_ (Heap.SameBut.update ..))⟩))
  exact ⟨_, Heap.get?_update_self _ go (Obj.isFreed_of_fields (Obj.data_mapFields gd _)), (Obj.cls_mapFields ..).trans gc, by rw [Obj.data_mapFields gd]; simp [rawInt]⟩
theorem nextOf_tup_end {cu tp : Addr} {i : Nat} {its : Array Value} {Q : Value → Shared → Prop} (hh : A.handled = none) (hc : s.heap.IsTupleIter cu tp i) (ht : s.heap.IsTuple tp its) (hu : its[i]? = none)
    (hE : ∀ h' e, Heap.ExtBut cu s.heap h' → (∃ o, h'.get? e = some o ∧ o.cls = .type "StopIteration") → E (.ref e) { s with heap := h' }) : wpAny (model prog w) A (Builtin.SmallTypes.nextOf (.ref cu)) Q E s := by
  obtain ⟨ob, go, gc, gd⟩ := id hc
  obtain ⟨ot, got, _, nt, gdt⟩ := ht
  unfold Builtin.SmallTypes.nextOf
  refine wpAny_bind (wpAny_callSpecial?_slot (name := Str.ofString "__next__") hc.typeIs F.slot_tuple_iterator_next (wpAny_call_entry F.slot_tuple_iterator_next hc.typeIs F.entry_tuple_iterator_next ?_ (F.args_tuple_iterator_next_1 _)))
  show wpAny _ _ (field (.ref cu) 0 >>= _) _ _ s
  refine wpAny_bind (wpAny_field go gd (x := .ref tp) rfl ?_)
  show wpAny _ _ (if (Value.ref tp == Value.none) = true then _ else _) _ _ s
  rw [if_neg (show ¬ ((Value.ref tp == Value.none) = true) from Bool.false_ne_true)]
  show wpAny _ _ (field (.ref cu) 1 >>= _) _ _ s
  refine wpAny_bind (wpAny_field go gd (x := .int i 0) rfl ?_)
  show wpAny _ _ (seqItems? (.ref tp) >>= _) _ _ s
  refine wpAny_bind (wpAny_seqItems got gdt ?_)
  simp only [Int.toNat_natCast, hu]
  refine wpAny_bind (wpAny_rule (wpAny_bind (wpAny_setField go gd (by simp) ?_)))
  (show wpAny _ _ (newExc (.type "StopIteration") [] >>= _) _ _ _); refine wpAny_bind ?_
  simp only [newExc, newTuple]; refine wpAny_bind (wpAny_newObj_type ?_ (by size_fits))
  refine wpAny_bind (m := firstArgMember _ _) (wpAny_of_eq (a := Value.none) (by first | (simp only [firstArgMember]; rfl) | rfl) ?_)
  refine wpAny_newObj_type ?_ (by size_fits); simp only [raiseNew]; refine wpAny_bind (wpAny_handled ?_)
  first | rw [hh] | rw [show A.in1.handled = none from hh]
  refine wpAny_bind (wpAny_pure (wpAny_throw ?_)); exact hE _ _ (((Heap.SameBut.update ..).extBut.push _).push _) ⟨_, Heap.get?_push_size _ rfl, rfl⟩
theorem tup_at {h h' : Heap} {tp : Addr} {its : Array Value} (x : h.IsTuple tp its) (k : ∀ o, h.get? tp = some o → h'.get? tp = some o) : h'.IsTuple tp its := let ⟨o, a, b⟩ := x; ⟨o, k o a, b⟩
theorem titer_at {h h' : Heap} {cu tp : Addr} {i : Nat} (x : h.IsTupleIter cu tp i) (k : ∀ o, h.get? cu = some o → h'.get? cu = some o) : h'.IsTupleIter cu tp i := let ⟨o, a, b⟩ := x; ⟨o, k o a, b⟩
theorem draws_tup (hh : A.handled = none) (cu tp : Addr) (hne : tp ≠ cu) (its : Array Value) :
    Draws prog w A cu [cu, tp] its.size (fun i v => its[i]? = some v) (fun i h => h.IsTupleIter cu tp i ∧ h.IsTuple tp its) where
  live := fun _ _ st => let ⟨o, ho, _⟩ := st.1; ⟨o, ho⟩
  frame := fun _ _ _ st hk => ⟨titer_at st.1 fun o e => hk cu (by simp) o e, tup_at st.2 fun o e => hk tp (by simp) o e⟩
  item := fun i s Q E hi st hQ => nextOf_tup st.1 st.2 (u := its[i]) (by simp [hi]) fun h' hc' hs' => hQ _ h' s.toks (by simp [hi]) ⟨hc', tup_at st.2 fun o e => (hs'.2 tp hne).trans e⟩ hs'
  done := fun s Q E st hE => nextOf_tup_end hh st.1 st.2 (by simp) hE
theorem new_enumT (tp : Addr) (its : Array Value) (ob : Obj) (hc : ob.cls = .type "tuple") (n : Nat) (hd : ob.data = .seq its n) :
    Meets (Builtin.«enumerate.__new__» ⟨[.type "enumerate", .ref tp], []⟩) (fun _ R s => s.heap.get? tp = some ob ∧
      R (.ok (.ret (.ref (s.heap.push { cls := .type "tuple_iterator", data := .fields #[.ref tp, .int 0 0] }).objs.size)))
        { s with heap := (s.heap.push { cls := .type "tuple_iterator", data := .fields #[.ref tp, .int 0 0] }).push { cls := .type "enumerate", data := .fields #[.none, .bool false, .ref s.heap.objs.size, rawInt 0, .none, .none] } }) :=
  .of_wp fun prog w A R s h => by
    obtain ⟨cl, dc, dt, sl⟩ := ob; simp only at hc hd; subst hc hd
    obtain ⟨hp, gs, dr, tk, os⟩ := s; obtain ⟨ht, h⟩ := h; have hsb := sub_enumerate
    have hT : Heap.IsTuple (Shared.heap ⟨hp, gs, dr, tk, os⟩) tp its := ⟨_, ht, rfl, n, rfl⟩
    wp_walk using AutoSeq1.wpAny_loadPart' ht
    refine wpAny_stack_any fun stk => wpAny_pure ?_
    split
    · rename_i c _ _ _ _ _
      cases (c == Value.type "enumerate")
      · wp_walk using AutoSeq1.wpAny_loadPart' ht, wpAny_pyIter_tuple hT
        exact ⟨_, rfl, h⟩
      · wp_walk using AutoSeq1.wpAny_loadPart' ht, wpAny_pyIter_tuple hT
        exact ⟨_, rfl, h⟩
    · wp_walk using AutoSeq1.wpAny_loadPart' ht, wpAny_pyIter_tuple hT
      exact ⟨_, rfl, h⟩
theorem call_enumT {tp : Addr} {its : Array Value} {Q : Value → Shared → Prop} (hT : s.heap.IsTuple tp its)
    (h : ∀ h', IsEnum h' (s.heap.objs.size + 1) s.heap.objs.size 0 .none → h'.IsTupleIter s.heap.objs.size tp 0 → h'.objs.size = s.heap.objs.size + 2 → (∀ b o, s.heap.get? b = some o → h'.get? b = some o) → Q (.ref (s.heap.objs.size + 1)) { s with heap := h' }) :
    wpAny (model prog w) A (call (.type "enumerate") [.ref tp]) Q E s := by
  obtain ⟨ob, ht, hc, n, hd⟩ := hT
  refine callType_new F.called_enumerate (by decide) (F.typeCall_enumerate_1 _) (F.newCall_enumerate_1 _) (fun o => F.args_object_init_2 o _) F.entry_enumerate_new (new_enumT tp its ob hc n hd) ⟨ht, ?_⟩
  have hz : (s.heap.push { cls := .type "tuple_iterator", data := .fields #[.ref tp, .int 0 0] }).objs.size = s.heap.objs.size + 1 := Heap.size_push ..
  show _ ∧ _; rw [hz]
  have he : IsEnum ((s.heap.push { cls := .type "tuple_iterator", data := .fields #[.ref tp, .int 0 0] }).push { cls := .type "enumerate", data := .fields #[.none, .bool false, .ref s.heap.objs.size, rawInt 0, .none, .none] }) (s.heap.objs.size + 1) s.heap.objs.size 0 .none := by
    have q := Heap.get?_push_size (s.heap.push { cls := .type "tuple_iterator", data := .fields #[.ref tp, .int 0 0] }) (o := { cls := .type "enumerate", data := .fields #[.none, .bool false, .ref s.heap.objs.size, rawInt 0, .none, .none] }) rfl
    rw [hz] at q; exact q
  refine ⟨⟨_, he, rfl⟩, h _ he ⟨_, Heap.get?_push_of_some _ (Heap.get?_push_size _ rfl), rfl, rfl⟩ (by rw [Heap.size_push, hz]) fun b o q => Heap.get?_push_of_some _ (Heap.get?_push_of_some _ q)⟩
end
section
variable {prog : Program} {w : World} {A : Around} {E : Value → Shared → Prop} {s : Shared}
theorem enum_endT {e cu tp : Addr} {i : Nat} {iz : Int} {old : Value} {its : Array Value} {Q : Option Value → Shared → Prop} (hh : A.handled = none) (he : IsEnum s.heap e cu iz old) (hc : s.heap.IsTupleIter cu tp i) (ht : s.heap.IsTuple tp its) (hu : its[i]? = none)
    (hQ : ∀ h', Heap.ExtBut cu s.heap h' → Q none { s with heap := h' }) : wpAny (model prog w) A (pyNext (.ref e)) Q E s := by
  have hT : s.TypeIs (.ref e) "enumerate" := ⟨_, he, rfl⟩
  unfold pyNext
  refine wpAny_bind (wpAny_attempt (wpAny_callSpecial?_slot (name := Str.ofString "__next__") hT F.slot_enumerate_next (wpAny_call_entry F.slot_enumerate_next hT F.entry_enumerate_next ?_ (F.args_enumerate_next_1 _))))
  (show wpAny _ _ (field (.ref e) 2 >>= _) _ _ _); refine wpAny_bind (wpAny_field he rfl (x := .ref cu) rfl ?_)
  refine wpAny_bind (nextOf_tup_end hh hc ht hu fun h' x eb hx => ?_)
  obtain ⟨o, ho, hcl⟩ := hx
  refine wpAny_bind (wpAny_isInstance (T := "StopIteration") (b := true) ⟨o, ho, hcl⟩ isSubtype_stop ?_); exact wpAny_pure (hQ _ eb)
end
/-- the tuple at a, each item in a new pair -/
def ItE (K : PySem.W.Frag) (a : Addr) : It :=
  ⟨fun i H => ∃ (xs : List V) (x : V), SqT K H a xs ∧ xs[i]? = some x, fun i H v H' => ∃ T x, v = .ref T ∧ H T = none ∧ H' = upd H T (.tup [.int (i : Nat), x]) ∧ ∀ xs, SqT K H a xs → xs[i]? = some x, fun i H => ∃ xs : List V, SqT K H a xs ∧ xs.length ≤ i⟩
end DL
namespace DL
open PySem PySem.Spec PyProof.Rows L2
theorem turn_enumT {P : Program} {w : World} {K : PySem.W.Frag} {elts : List Expr} {kk : Nat} {tpos : Pos} (a e cu : Addr) :
    Turn P w K (.Tuple elts kk tpos) (ItE K a) [e, cu] e (fun i h => (∃ old, IsEnum h e cu ((i : Nat) : Int) old) ∧ h.IsTupleIter cu a i ∧ e ≠ cu) where
  mem := by simp
  obj := fun i h st b hb => by
    obtain ⟨⟨old, he⟩, ⟨o, ho, hc, hd⟩, _⟩ := st
    rcases (by simpa using hb : b = e ∨ b = cu) with z | z
    · subst z
      exact ⟨_, he, fun v q => nomatch q⟩
    · subst z
      exact ⟨o, ho, fun v q => by rw [hd] at q; cases q⟩
  keep := fun i h h' st k => ⟨⟨st.1.choose, k e (by simp) _ st.1.choose_spec⟩, titer_at st.2.1 fun o q => k cu (by simp) o q, st.2.2⟩
  item := by
    intro X hP hw hK hc i pins s σ H E I hf st hg; subst hP hw hK
    obtain ⟨⟨old, he⟩, hit, hne⟩ := st
    obtain ⟨xs, x, hq, hx⟩ := hg
    obtain ⟨its, rv, p, hz⟩ := I.tuple hq
    obtain ⟨u, hu, ru⟩ := rv.get hx
    have hpt : s.heap.IsTuple a its.toArray := p
    have hel : e < s.heap.objs.size := Heap.lt_size he
    have hil : cu < s.heap.objs.size := by obtain ⟨_, q, _⟩ := hit; exact Heap.lt_size q
    have hnone : ∀ b ∈ [e, cu], H b = none := fun b hb => (hf b hb).1
    have hnc : a ≠ cu := by
      rintro rfl
      obtain ⟨o1, q1, c1, _⟩ := id hit
      obtain ⟨o2, q2, c2, _⟩ := id hpt
      rw [q1] at q2
      cases q2
      rw [c1] at c2
      exact absurd c2 (by decide)
    have hne2 : a ≠ e := by
      rintro rfl
      obtain ⟨o2, q2, c2, _⟩ := id hpt
      rw [he] at q2
      cases q2
      have c3 : Value.type "enumerate" = Value.type "tuple" := c2
      exact absurd c3 (by decide)
    have hlt : i < its.toArray.size := by
      have := (List.getElem?_eq_some_iff.mp hu).1
      simpa using this
    refine wpAny_pyNext_enum_itemD (draws_tup (A := X.A.in1) (I.ok.hd hc) cu a hnc its.toArray) he ⟨hit, hpt⟩ hlt hne (by simp [hne, Ne.symm hne2]) fun y h' tk hy ho hst hT hsz hk => ?_
    have ey : y = u := by
      have hu' : its.toArray[i]? = some u := by simpa using hu
      rw [hu'] at hy
      exact (Option.some.inj hy).symm
    subst ey
    refine ⟨_, rfl, wpAny_letOwnedTupleGo_enum (s := { s with heap := h', toks := tk + 1 }) ho fun h'' he' sb => ?_⟩
    have hT2 : h''.get? s.heap.objs.size = some { cls := .type "tuple", data := .seq #[.int i tk, y] } := (sb.2 _ (Nat.ne_of_gt hel)).trans hT
    have new : ObjOk X.prog X.w (upd H s.heap.objs.size (.tup [.int (i : Nat), x])) h'' s.heap.objs.size (.tup [.int (i : Nat), x]) := ⟨by show 2 ≤ sizeLine; decide, [.int i tk, y], .cons ⟨_, rfl⟩ (.cons ru .nil), ⟨_, hT2, rfl, _, rfl⟩⟩
    have I1 : Inv X pins σ (upd H s.heap.objs.size (.tup [.int (i : Nat), x])) { s with heap := h'', toks := tk + 1 } :=
      I.turnedNew (ch := [e, cu]) (fun b ob hb q => (sb.2 b (fun z => hb (by simp [z]))).trans (hk b ob (fun z => hb (by simp [z])) (fun z => hb (by simp [z])) q)) hf (Nat.le_refl _) new
    refine ⟨.ref s.heap.objs.size, _, I1, rfl, ⟨_, x, rfl, I.hok.fresh (Nat.le_refl _), rfl, fun ys hy => by rw [I.tuple_inj hy hq]; exact hx⟩, ⟨⟨y, ?_⟩, titer_at hst.1 fun o q => (sb.2 cu (Ne.symm hne)).trans q, hne⟩, fun b hb => ?_⟩
    · rw [show ((i + 1 : Nat) : Int) = (i : Int) + 1 by omega]; exact he'
    · have hb' : b < s.heap.objs.size := by
        rcases (by simpa using hb : b = e ∨ b = cu) with z | z
        · exact z ▸ hel
        · exact z ▸ hil
      rw [upd_ne (Nat.ne_of_lt hb')]; exact hnone b hb
  done := by
    intro X hP hw hK hc i pins s σ H E I hf st hg; subst hP hw hK
    obtain ⟨⟨old, he⟩, hit, hne⟩ := st
    obtain ⟨xs, hq, hx⟩ := hg
    obtain ⟨its, rv, p, hz⟩ := I.tuple hq
    obtain ⟨f0, f1, f2, f3, f4, f5⟩ := hf cu (by simp)
    have hl := rv.length
    exact enum_endT (I.ok.hd hc) he hit (show s.heap.IsTuple a its.toArray from p) (by simp; omega) fun h' eb => ⟨rfl, I.turned (t' := s.toks) (fun b o hb q => eb b o hb q) f0 f1 f3 f4 f5⟩
  self := fun A i s Q E st h => let ⟨⟨_, he⟩, _⟩ := st; wpAny_pyIter_enum he h
def iEnumT (K : PySem.W.Frag) (ta : TA) : TI := fun σ H R => ta σ H fun vs H1 => ∃ a xs, vs = [.ref a] ∧ SqT K H1 a xs ∧ R (ItE K a) H1
theorem pi_enumT {X : Cx} {e : Expr} {ta : TA} {p pos tpos : Pos} {elts : List Expr} {kk : Nat} (hg : Gl X "enumerate") (hm : X.mg "enumerate" = none) (ha : PA X [e] ta) (hs : starEach [e] X.env = [(false, eval e X.env)] := by rfl) :
    PI X (.Tuple elts kk tpos) (.Call (.Name "enumerate" p) [e] [] pos) (iEnumT X.K ta) := by
  refine ⟨fun pins s σ H R I h => Call_ (ld_blt I hg hm boot_enumerate (PyProof.Rows.callWith_type1 (thn (ha.run pos pins s σ H _ I h) fun us s1 ⟨vs, H1, I1, r1, q1⟩ => ?_) hs rfl))⟩
  obtain ⟨a, xs, ex, hq, q⟩ := q1; subst ex
  obtain ⟨u, rfl, r⟩ := vals1 r1
  obtain rfl : u = Value.ref a := r
  obtain ⟨its, rv, pt, hz⟩ := I1.tuple hq
  refine call_enumT (show s1.heap.IsTuple a its.toArray from pt) fun h' he hit hsz hk => wpAny_pyIter_enum he ?_
  have I2 : Inv X pins σ H1 { s1 with heap := h' } := I1.kept (t' := s1.toks) hk
  refine ⟨s1.heap.objs.size + 1, [s1.heap.objs.size + 1, s1.heap.objs.size], _, _, H1, rfl, I2, turn_enumT a (s1.heap.objs.size + 1) s1.heap.objs.size, ⟨⟨.none, he⟩, hit, Nat.succ_ne_self _⟩, fun b hb => ?_, q⟩
  have hle : s1.heap.objs.size ≤ b := by
    rcases (by simpa using hb : b = s1.heap.objs.size + 1 ∨ b = s1.heap.objs.size) with z | z
    · exact z ▸ Nat.le_succ _
    · exact z ▸ Nat.le_refl _
  exact I1.fpOk hle (I1.hok.fresh hle)
def diEnumT (t : DTA) : DTI := fun m M Q => t m M fun ds M1 => ∃ xs, ds = [.tup xs] ∧ Q (enumD 0 xs, none) M1
theorem di_enumT {X : Cx} {e : Expr} {t : DTA} {p pos tpos : Pos} {elts : List Expr} {kk : Nat} (hg : Gl X "enumerate") (hm : X.mg "enumerate" = none) (ha : DA X [e] t) (hs : starEach [e] X.env = [(false, eval e X.env)] := by rfl) :
    DI X (.Tuple elts kk tpos) (.Call (.Name "enumerate" p) [e] [] pos) (diEnumT t) :=
  imI (pi_enumT hg hm ha hs) fun σ H Q ⟨m, M, Q', r, q, k⟩ => by
    refine ⟨m, M, _, r, q, fun ds vs M1 H1 g1 r1 m1 ⟨xs, e1, q1⟩ => ?_⟩
    subst e1
    obtain ⟨v, e2, rv⟩ := repL_one r1
    subst e2
    cases rv with
    | tup hf z l =>
      refine ⟨_, _, rfl, hf, k _ M1 H1 _ g1 m1 q1 ⟨?_, fun i H2 ok hi => ?_, fun i H2 x H3 ok hi y => ?_, fun H2 ok => ?_⟩⟩
      · show (enumD 0 xs).length ≤ sizeLine
        rw [enumD_len, l.length]
        exact z
      · have hi' : i < xs.length := by rw [← enumD_len 0 xs]; exact hi
        obtain ⟨w, e3, _⟩ := l.get (List.getElem?_eq_getElem hi')
        exact ⟨_, w, sqT_grow hf ok.1, e3⟩
      · obtain ⟨T, x', e3, hT, e4, hx⟩ := y
        subst e3
        subst e4
        obtain ⟨d, e5, rd⟩ := l.get' (hx _ (sqT_grow hf ok.1))
        refine ⟨.new hT, fun M2 rm => rm.new hT, .tup [.int ((0 + i : Nat) : Int), d], ?_, ?_⟩
        · show (enumD 0 xs)[i]? = _
          rw [enumD_get, e5]
          rfl
        · rw [Nat.zero_add]
          exact .tup (.of upd_same) (by show 2 ≤ sizeLine; decide) (.cons (.int _) (.cons (rd.grow (ok.1.trans (.new hT))) .nil))
      · refine ⟨_, sqT_grow hf ok.1, ?_⟩
        show _ ≤ (enumD 0 xs).length
        rw [enumD_len, l.length]
        exact Nat.le_refl _
/-! ### slices of texts -/
def dSlS (te : DTE) (tl th : DTO) : DTE := fun m M Q => te m M fun d M1 => tl m M1 fun lo M2 => th m M2 fun hi M3 => ∃ z, d = .str z ∧ z.length ≤ 16777216 ∧ Q (.str (cutS z lo hi)) M3
theorem d_slS {X : Cx} {e : Expr} {lo hi : Option Expr} {te : DTE} {tl th : DTO} {pos p2 : Pos} (he : DE X e te) (hl : DPO X lo tl) (hh : DPO X hi th) : DE X (.Subscript e (.Slice lo hi none p2) pos) (dSlS te tl th) :=
  imE (pe_slice sl_str he hl hh) fun σ H Q ⟨m, M, Q', r, q, k⟩ => by
    refine ⟨m, M, _, r, q, fun d v M1 H1 g1 r1 m1 q1 => ?_⟩
    refine ⟨m, M1, _, r.grow g1 m1, q1, fun o1 M2 H2 g2 m2 q2 => ?_⟩
    refine ⟨m, M2, _, r.grow (g1.trans g2) m2, q2, fun o2 M3 H3 g3 m3 ⟨z, e1, hz, q3⟩ => ?_⟩
    subst e1
    cases r1
    exact ⟨z, rfl, by rw [sizeLine_eq]; exact hz, k _ _ M3 H3 ((g1.trans g2).trans g3) (.str _) m3 q3⟩
end DL
/-! sorted(a list, key=a def): the def is pure here, its keys are data -/
namespace DL
open PySem PySem.Spec PyProof.Rows L2
open PySem.W (EachIs AllAlike Sortable dataLe alike alikeAll KeepsBut keyH_end KeyedOut keyedOut_each dataKind SortsAt sorted_of_sort copyHeap copyHeap_at copyHeap_old sortingHeap sortingHeap_old)

section
variable {fs : List Addr} {H H1 : Hp} {h h1 h2 : Heap} {k a : Addr} {P : Program} {w : World} {o : HO}
theorem un_side {k' : Addr} (u : Un fs [] H H1 h h1) (hk : h.get? k = none) (hk' : h.get? k' = none) (keep : ∀ b o, b ≠ k → b ≠ k' → h1.get? b = some o → h2.get? b = some o) : Un fs [] H H1 h h2 := by
  have nk : ∀ {b : Addr} {o : Obj}, h.get? b = some o → b ≠ k := fun q z => by rw [z, hk] at q; cases q
  have nk' : ∀ {b : Addr} {o : Obj}, h.get? b = some o → b ≠ k' := fun q z => by rw [z, hk'] at q; cases q
  refine ⟨fun b o q n hb hx => keep b o (nk q) (nk' q) (u.keep b o q n hb hx), fun b o q n hb hx => ?_, u.free, fun b o q hx => ?_, u.tups, u.frzs, u.tbls⟩
  · obtain ⟨sl, e⟩ := u.slot b o q n hb hx
    exact ⟨sl, keep b _ (nk q) (nk' q) e⟩
  · obtain ⟨o', e⟩ := u.there b o q hx
    exact ⟨o', keep b _ (nk q) (nk' q) e⟩
theorem hok_side {k' : Addr} (x : HOk P w H h) (hn : H k = none) (hn' : H k' = none) (keep : ∀ b o, b ≠ k → b ≠ k' → h.get? b = some o → h2.get? b = some o) : HOk P w H h2 := fun b u e => by
  have nk : ∀ c v, H c = some v → c ≠ k := fun c v q z => by rw [z, hn] at q; cases q
  have nk' : ∀ c v, H c = some v → c ≠ k' := fun c v q z => by rw [z, hn'] at q; cases q
  refine (x b u e).stay (fun c v hc q => keep c v ?_ ?_ q) (fun _ q => q) fun _ _ q => q
  · rcases hc with z | z
    · rw [z]; exact nk b u e
    · exact nk c _ z
  · rcases hc with z | z
    · rw [z]; exact nk' b u e
    · exact nk' c _ z
theorem un_adopt (u : Un fs [] H H1 h h2) (ha : h.get? a = none) (hn : H a = none) (hn1 : H1 a = none) : Un fs [] H (upd H1 a o) h h2 where
  keep := u.keep
  slot := u.slot
  free := fun b ob q n hx => by
    rw [upd_ne (fun z => by rw [z, ha] at q; cases q)]
    exact u.free b ob q n hx
  there := u.there
  tups := fun b xs q => by
    have z := u.tups b xs q
    rw [upd_ne (ne_of_none z hn1)]
    exact z
  frzs := fun b ob x q => by
    have z := u.frzs b ob x q
    rw [upd_ne (ne_of_none z hn1)]
    exact z
  tbls := fun b ps q => by
    obtain ⟨more, z⟩ := u.tbls b ps q
    exact ⟨more, by rw [upd_ne (ne_of_none z hn1)]; exact z⟩
theorem hok_adopt (x : HOk P w H h) (hn : H a = none) (new : ObjOk P w (upd H a o) h a o) : HOk P w (upd H a o) h := fun b u e => by
  by_cases hb : b = a
  · subst hb; rw [upd_same] at e; cases e; exact new
  · rw [upd_ne hb] at e
    exact (x b u e).stay (fun c v _ q => q) (fun c q => by rw [upd_ne (ne_of_none q hn)]; exact q) fun c xs q => by rw [upd_ne (ne_of_none q hn)]; exact q
end
/-! ### lists of tuples of any lengths can be sorted, too -/
/-- as Sortable, or all are tuples (some of them empty) -/
def SortOk (ds : List PyData) : Prop := Sortable ds ∨ ∀ d ∈ ds, ∃ xs, d = .tuple xs
def ne0 : PyData → Bool
  | .tuple (_ :: _) => true
  | _ => false
theorem each_right {α β : Type} {R : α → β → Prop} : ∀ {as : List α} {bs : List β}, EachIs R as bs → ∀ b ∈ bs, ∃ a, a ∈ as ∧ R a b
  | _, _, .cons h t, b, hb => by
    rcases List.mem_cons.mp hb with rfl | hb
    · exact ⟨_, List.mem_cons_self .., h⟩
    · obtain ⟨a, ha, r⟩ := each_right t b hb
      exact ⟨a, List.mem_cons_of_mem _ ha, r⟩
section
variable {prog : Program} {w : World} {A : Around} {E : Value → Shared → Prop} {s : Shared}
theorem lt_tups {f : Bool} {xs ys : List PyData} {a b : Value} {as bs : List Addr} {Q : Bool → Shared → Prop} (ra : Reads s.heap a (.tuple xs) as) (rb : Reads s.heap b (.tuple ys) bs) (h : alike (.tuple xs) (.tuple ys) = true)
    (hu : A.units + min (PyData.tuple xs).depth (PyData.tuple ys).depth < cLine) (hq : Q (PySem.W.dataLt (.tuple xs) (.tuple ys)) s) : wpAny (model prog w) A (oneLt' f a b) Q E s := by
  cases f with
  | false => exact PySem.W.oneLt_alike (fun z => by cases z) ra rb h (fun z => by cases z) hu hq
  | true =>
    have hal : PySem.W.alikeAll xs ys = true := by simpa [alike] using h
    cases ra with
    | @tuple l o vs n _ _ h1 h2 h3 h4 =>
      cases rb with
      | @tuple l' o' vs' n' _ _ k1 k2 k3 k4 =>
        have n1 : vs.size = xs.length := by simpa using SeqAt.ReadsAll.length _ _ _ h4
        have n2 : vs'.size = ys.length := by simpa using SeqAt.ReadsAll.length _ _ _ k4
        rw [PySem.W.dataLt_tuple, ← PySem.W.firstLt_toks xs ys hal, ← n1, ← n2] at hq
        obtain ⟨cls, dd, data, sl⟩ := o
        obtain ⟨cls2, dd2, data2, sl2⟩ := o'
        simp only at h2 h3 k2 k3
        subst h2 h3 k2 k3
        rw [oneLt'_eq]
        simp only [if_true]
        refine wpAny_bind (wpAny_cRoomFor (SeqAt.room_here hu) ?_)
        refine wpAny_bind (wpAny_callSpecialIfBound?_slot (T := "tuple") ⟨_, h1, rfl⟩ PySem.F.slot_tuple_lt (call_meets PySem.F.slot_tuple_lt ⟨_, h1, rfl⟩ PySem.F.entry_tuple_lt (PySem.F.args_tuple_lt_2 _ _)
          (SeqAt.tuple_ltAt l l' vs vs' n n' dd dd2 sl sl2 (SeqAt.pairEq xs ys) fun j => PySem.W.dataLt (xs.getD j .none) (ys.getD j .none)) ⟨h1, k1, fun j j1 j2 => ?_, fun j j1 j2 hj => ?_, ?_⟩))
        · have := PySem.W.eqAt_alikeAll xs ys A.in1 s vs.toList vs'.toList _ _ h4 k4 hal (SeqAt.room_in hu) j (by simpa using j1) (by simpa using j2)
          simpa using this
        · have := PySem.W.rcLt_alikeAll xs ys A.in1 s vs.toList vs'.toList _ _ h4 k4 hal (SeqAt.room_in hu) j (by simpa using j1) (by simpa using j2) hj
          simpa using this
        · exact wpAny_truthy_bool hq
theorem firsts_ex : ∀ {vs : List Value} {ds : List PyData}, EachIs (fun v d => ∃ as, Reads s.heap v d as) vs ds → (∀ d ∈ ds, ∃ xs, d = .tuple xs) →
    ∃ fs : List (Option Value), EachIs (fun (f : Option Value) d => f.isSome = ne0 d) fs ds ∧ ∀ {A : Around} {E : Value → Shared → Prop} {Q : List (Option Value) → Shared → Prop}, Q fs s → wpAny (model prog w) A (vs.mapM firstOfTuple') Q E s
  | _, _, .nil, _ => ⟨[], .nil, fun h => by rw [List.mapM_nil]; exact wpAny_pure h⟩
  | _, _, .cons (b := d) ⟨as, r⟩ t, ht => by
    obtain ⟨fs, h1, h2⟩ := firsts_ex t fun d hd => ht d (List.mem_cons_of_mem _ hd)
    obtain ⟨xs, rfl⟩ := ht d (List.mem_cons_self ..)
    cases r with
    | @tuple a o us n _ _ ho hc hd hr =>
      refine ⟨us[0]? :: fs, .cons ?_ h1, fun {A E Q} q => ?_⟩
      · rw [← Array.getElem?_toList]
        cases e : us.toList with
        | nil =>
          rw [e] at hr
          cases hr
          rfl
        | cons f fr =>
          rw [e] at hr
          cases hr
          rfl
      · rw [List.mapM_cons]
        refine wpAny_bind ?_
        rw [PySem.W.kas_first_eq]
        refine wpAny_bind (PySem.W.Looks.here (show PySem.W.Looks _ s.heap (typeOf (.ref a)) o.cls from (PySem.W.Looks.ld ho).andThen .now) ?_)
        rw [hc, if_neg (by first | decide | simp)]
        refine wpAny_bind (listItems_at ho hd (wpAny_pure ?_))
        exact wpAny_bind (h2 (wpAny_pure q))
/-- values that read as alike tuples of any lengths can be sorted -/
theorem sortsAt_tups {vs : List Value} {ds : List PyData} (e : EachIs (fun v d => ∃ as, Reads s.heap v d as) vs ds) (hal : AllAlike ds) (hk : SortOk ds) (hu : ∀ d, d ∈ ds → A.units + d.depth < cLine) : SortsAt prog w A s (dataKind s.heap ds) vs := by
  rcases hk with hk | ht
  · exact SortsAt.data e hal hk hu
  by_cases all : ∀ d ∈ ds, ne0 d = true
  · refine SortsAt.data e hal (.inl fun d hd => ?_) hu
    obtain ⟨xs, rfl⟩ := ht d hd
    cases xs with
    | nil => exact absurd (all _ hd) (by simp [ne0])
    | cons x r => exact ⟨x, r, rfl⟩
  obtain ⟨fs, hf, hm⟩ := firsts_ex (prog := prog) (w := w) e ht
  have hnall : (fs.toArray.all fun x => x.isSome) = false := by
    rw [List.all_toArray]
    cases q : fs.all fun x => x.isSome with
    | false => rfl
    | true =>
      refine absurd (fun d hd => ?_) all
      obtain ⟨f, hfm, h⟩ := each_right hf d hd
      rw [← h]
      exact List.all_eq_true.mp q f hfm
  have lt : ∀ f : Bool, ∀ (E : Value → Shared → Prop) (x y : Value) (a b) (Q : Bool → Shared → Prop), (dataKind s.heap ds).keyOf x = some a → (dataKind s.heap ds).keyOf y = some b → Q ((dataKind s.heap ds).blt a b) s → wpAny (model prog w) A (oneLt' f x y) Q E s := by
    intro f E x y a b Q ha hb hq
    obtain ⟨d, as, hd, ra, rfl⟩ := PySem.W.dataKind_inv ha
    obtain ⟨d', as', hd', rb, rfl⟩ := PySem.W.dataKind_inv hb
    obtain ⟨x1, rfl⟩ := ht d hd
    obtain ⟨x2, rfl⟩ := ht d' hd'
    exact lt_tups ra rb (hal _ hd _ hd') (Nat.lt_of_le_of_lt (Nat.add_le_add_left (Nat.min_le_left _ _) _) (hu _ hd)) hq
  refine ⟨fun v hv => ?_, if ((fs.toArray[0]?).bind id).isSome then general' else oneType', ?_, fun h2 E Q hq => ?_⟩
  · obtain ⟨d, hd, as, r⟩ := e.left v hv
    exact ⟨_, PySem.W.dataKind_some hal hd r⟩
  · intro E x y a b Q ha hb hq
    split
    · exact lt false E x y a b Q ha hb hq
    · exact lt true E x y a b Q ha hb hq
  · rw [keyKind'_eq, List.mapM_toArray, map_eq_pure_bind]
    refine wpAny_bind (wpAny_bind (hm (wpAny_pure ?_)))
    rw [if_neg (by rw [hnall]; simp)]
    by_cases c : ((fs.toArray[0]?).bind id).isSome = true
    · rw [if_pos c] at hq ⊢
      exact wpAny_pure hq
    · rw [if_neg c] at hq ⊢
      rw [oneTypeOnly'_eq, List.mapM_toArray, map_eq_pure_bind]
      refine wpAny_bind (wpAny_bind (wpAny_bind (PySem.W.kas_mapM (r := Value.type "tuple") _ (fun v hv Q' hq => ?_) (wpAny_pure ?_))))
      · obtain ⟨d, hd, as, r⟩ := e.left v hv
        obtain ⟨xs, rfl⟩ := ht d hd
        exact (PySem.W.looks_reads r).here hq
      · obtain ⟨v₁, rest, rfl⟩ : ∃ v₁ rest, vs = v₁ :: rest := by
          cases vs with
          | nil => simp at h2
          | cons a b => exact ⟨a, b, rfl⟩
        have hall2 : ((List.map (fun _ => Value.type "tuple") (v₁ :: rest)).toArray.all fun x => x == Value.type "tuple") = true := by
          simp only [List.all_toArray, List.all_map, List.all_eq_true]
          intro _ _
          exact beq_self_eq_true _
        have h0 : (List.map (fun _ => Value.type "tuple") (v₁ :: rest)).toArray[0]? = some (Value.type "tuple") := by simp
        rw [h0]
        simp only [hall2, if_true]
        exact wpAny_pure (wpAny_pure (by simpa using hq))
end
section
variable {X : Cx}
/-- sorted(xs, key=f), f a def with the promise dsp that is pure at the items: its keys are data -/
def rSortK (dsp : DSp) : List D → DM → DVK → Prop := fun ds M Q => ∃ d xs, ∃ g : D → D, ds = [d] ∧ dItems d M = some xs ∧ d ≠ .tup xs ∧ (∀ x ∈ xs, ∀ Q' : DVK, Q' (g x) M → dsp [x] M Q') ∧ (xs.map g).all (dOk 32) = true ∧
  AllAlike ((xs.map g).map D.py) ∧ SortOk ((xs.map g).map D.py) ∧ ∀ p, M p = none → Q (.ref p) (mput M p (.lst (xs.mergeSort (dataLe false fun x => D.py (g x)))))
/-- what is so behind the i-th key -/
structure KeyInv (X : Cx) (σ : SL) (H : Hp) (M : DM) (s : Shared) (kS a : Addr) (e1 : Nat) (gs : List D) (i : Nat) (s' : Shared) : Prop where
  ex : ∃ (Hj : Hp) (kA : Array Value) (e : Nat) (ws : List V), Un (frs X.stack) [] H Hj s.heap s'.heap ∧ Grow H Hj ∧ HOk X.prog X.w Hj s'.heap ∧ RM X.K Hj M ∧ AllBare s'.gens ∧ s'.os = s.os ∧
    s'.heap.get? kS = some (seqObj "list" kA e) ∧ s'.heap.get? a = some (seqObj "list" #[] e1) ∧ Hj kS = none ∧ Hj a = none ∧ Vals ws kA.toList ∧ RepL X.K Hj (gs.take i) ws
theorem take_snoc {α : Type} {xs : List α} {i : Nat} {x : α} (h : xs[i]? = some x) : xs.take (i + 1) = xs.take i ++ [x] := by
  rw [List.take_add_one, h]
  rfl
theorem vals_snoc : ∀ {vs : List V} {us : List Value} {v : V} {u : Value}, Vals vs us → RelV v u → Vals (vs ++ [v]) (us ++ [u])
  | _, _, _, _, .nil, r => .cons r .nil
  | _, _, _, _, .cons h t, r => .cons h (vals_snoc t r)
/-- what a call of the key's def gives, in every state that it may be called in -/
def KeyRun (X : Cx) (pins : List (Addr × Obj)) (σ : SL) (H : Hp) (M : DM) (s : Shared) (f : Value) (xs : List D) (g : D → D) : Prop :=
  ∀ (Hj : Hp) (s' : Shared) (d : D) (v : V) (x : Value), d ∈ xs → Un (frs X.stack) [] H Hj s.heap s'.heap → Grow H Hj → Inv X pins σ Hj s' → RM X.K Hj M → Rep X.K Hj d v → RelV v x →
    wpAny (model X.prog X.w) X.A.in1.in1 (call f [x]) (fun v0 s'' => CE X.stack X.prog X.w Hj s' (fun v H' => Grow Hj H' ∧ Rep X.K H' (g d) v ∧ RM X.K H' M) v0 s'') (fun _ _ => False) s'
theorem key_loop {f : Value} {pins : List (Addr × Obj)} {σ : SL} {H : Hp} {M : DM} {s s0 : Shared} {kS a : Addr} {e1 : Nat} {xs : List D} {ws : List V} {vs : List Value} {g : D → D} {P : PySem.Fin → Shared → Prop} {E : Value → Shared → Prop}
    (kr : KeyRun X pins σ H M s f xs g) (I : Inv X pins σ H s) (l : RepL X.K H xs ws) (rv : Vals ws vs) (hz : vs.length ≤ sizeLine)
    (hok : (xs.map g).all (dOk 32) = true) (hal : AllAlike ((xs.map g).map D.py)) (hsk : SortOk ((xs.map g).map D.py)) (hu : X.A.in1.in1.units + 40 < cLine)
    (hkS : s.heap.objs.size ≤ kS) (ha : s.heap.objs.size ≤ a) (hka : kS ≠ a) (I0 : KeyInv X σ H M s kS a e1 (xs.map g) 0 s0)
    (h : ∀ (Hj : Hp) (s' : Shared) (out : List Value) (c : Nat), Un (frs X.stack) [] H Hj s.heap s'.heap → Grow H Hj → HOk X.prog X.w Hj s'.heap → RM X.K Hj M → AllBare s'.gens → s'.os = s.os → s'.heap.get? a = some (seqObj "list" (List.toArray out) c) → Hj a = none →
      KeyedOut false ((xs.map g).map D.py) vs out → P (.done (.ret .none)) s') :
    wpAny (model X.prog X.w) X.A.in1.in1 (ksk_rest a f false vs.toArray e1 (.ref kS)) P E s0 := by
  unfold ksk_rest
  refine wpAny_bind (wpAny_rule ?_)
  first
    | rw [List.forIn_toArray]
    | (rw [← Array.forIn_toList]; simp only [List.toList_toArray])
    | rw [← Array.forIn_toList]
  have hxl : xs.length = vs.length := l.length.trans rv.length
  have fsk : kS ∉ frs X.stack := fun z => (List.mem_cons.mp (I.stkSub _ z)).elim (fun z => absurd (Nat.lt_of_lt_of_le I.lt (by rw [← z]; exact hkS)) (Nat.lt_irrefl _)) (I.nofs hkS)
  have fsa : a ∉ frs X.stack := fun z => (List.mem_cons.mp (I.stkSub _ z)).elim (fun z => absurd (Nat.lt_of_lt_of_le I.lt (by rw [← z]; exact ha)) (Nat.lt_irrefl _)) (I.nofs ha)
  have gk : s.heap.get? kS = none := Heap.get?_none_of_le hkS
  have ga : s.heap.get? a = none := Heap.get?_none_of_le ha
  refine wpAny_bind (ksk_fold (fun i s' => KeyInv X σ H M s kS a e1 (xs.map g) i s') vs 0 s0 I0 ?step ?done)
  case step =>
    rintro j x s' hx ⟨Hj, kA, e, us, un, gr, hk, rm, bare, os, nk, na, fk, fa, vk, lk⟩
    rw [Nat.zero_add] at lk ⊢
    have hj : j < vs.length := (List.getElem?_eq_some_iff.mp hx).1
    obtain ⟨d, hd⟩ : ∃ d, xs[j]? = some d := ⟨_, List.getElem?_eq_getElem (by omega)⟩
    have hdm : d ∈ xs := List.mem_of_getElem? hd
    obtain ⟨v, hv, rd⟩ := l.get hd
    obtain ⟨u, hu', ru⟩ := rv.get hv
    rw [hx] at hu'
    cases hu'
    have J : Inv X pins σ Hj s' := I.call' (ch := []) os un hk bare (fun b z => absurd z (by simp))
    have run := kr Hj s' d v x hdm un gr J rm (rd.grow gr) ru
    refine wpAny_bind (wpAny_attempt (wpAny_mono run (fun v0 s'' he => ?_) fun _ _ hF => hF.elim))
    obtain ⟨v2, H2, os2, bare2, un2, hk2, r2, g2, rd2, rm2⟩ := he
    try dsimp only
    have nk2 : s''.heap.get? kS = some (seqObj "list" kA e) := un2.keep kS _ nk fk fsk (by simp)
    have na2 : s''.heap.get? a = some (seqObj "list" #[] e1) := un2.keep a _ na fa fsa (by simp)
    have fk2 : H2 kS = none := un2.free kS _ nk fk (by simp)
    have fa2 : H2 a = none := un2.free a _ na fa (by simp)
    have s1 := Heap.SameBut.update s''.heap kS (Obj.mapSeq (·.push v0))
    obtain ⟨c2, hc2⟩ : ∃ c2, (s''.heap.update kS (Obj.mapSeq (·.push v0))).get? kS = some (seqObj "list" (kA.push v0) c2) := ⟨_, get?_update_seq nk2 (·.push v0)⟩
    have keep : ∀ b o, b ≠ kS → b ≠ kS → s''.heap.get? b = some o → (s''.heap.update kS (Obj.mapSeq (·.push v0))).get? b = some o := fun b o hb _ e => (s1.2 b hb).trans e
    have hkl : kA.size ≤ vs.length := by
      have h1 := vk.length
      have h2 := lk.length
      have h3 : kA.toList.length = kA.size := Array.length_toList
      rw [List.length_take, List.length_map] at h2
      omega
    refine wpAny_bind (listUpdate_at nk2 rfl ?_ (Nat.le_trans hkl hz) (Nat.le_trans (Nat.le_of_eq (Array.size_push ..)) (Nat.succ_le_succ (Nat.le_trans hkl hz))))
    refine wpAny_pure ⟨rfl, ⟨H2, kA.push v0, c2, us ++ [v2], un_side (un.trans un2) gk gk keep, gr.trans g2, hok_side hk2 fk2 fk2 keep, rm2, bare2, os2.trans os, hc2, (s1.2 a hka.symm).trans na2, fk2, fa2, ?_, ?_⟩⟩
    · have ea : (kA.push v0).toList = kA.toList ++ [v0] := by simp
      rw [ea]
      exact vals_snoc vk r2
    · rw [take_snoc (x := g d) (by rw [List.getElem?_map, hd]; rfl)]
      exact (lk.grow g2).append (.one rd2)
  case done =>
    rintro s' ⟨Hj, kA, e, us, un, gr, hk, rm, bare, os, nk, na, fk, fa, vk, lk⟩
    rw [Nat.zero_add, List.take_of_length_le (by rw [List.length_map]; omega)] at lk
    have J : Inv X pins σ Hj s' := I.call' (ch := []) os un hk bare (fun b z => absurd z (by simp))
    have hk' : EachIs (fun v k => ∃ as, Reads s'.heap v k as) kA.toList ((xs.map g).map D.py) := PySem.W.each_map (R := fun v k => ∃ as, Reads s'.heap v k as) D.py (reads_each J lk vk hok)
    have hsz : kA.size = vs.length := by
      have h1 := vk.length
      have h2 := lk.length
      have h3 : kA.toList.length = kA.size := Array.length_toList
      rw [List.length_map] at h2
      omega
    obtain ⟨G, g1, g2⟩ := restrict s'.heap (fun b => decide (b ≠ kS))
    have kp : KeepsBut a G s'.heap := fun b o hb e => by
      by_cases q : b = kS
      · rw [q, g2 kS (by simp)] at e
        cases e
      · rw [g1 b (by simp [q])] at e
        exact e
    refine wpAny_bind (listItems_at nk rfl ?_)
    refine keyH_end (κ := dataKind s'.heap ((xs.map g).map D.py)) (h₁ := G) kp (g2 kS (by simp)) nk na hka (sortsAt_tups hk' hal hsk fun q hq => ?_) hsz hz fun h3 tk3 c k3 n3 => ?_
    · obtain ⟨b, hb', rfl⟩ := List.mem_map.mp hq
      have := (dOk_lay 32 b (List.all_eq_true.mp hok b hb')).2
      omega
    have keep3 : ∀ b o, b ≠ a → b ≠ kS → s'.heap.get? b = some o → h3.get? b = some o := fun b o hb hk e => k3 b o hb (by rw [g1 b (by simp [hk])]; exact e)
    exact h Hj { s' with heap := h3, toks := tk3 } _ c (un_side un ga gk keep3) gr (hok_side hk fa fk keep3) rm bare os n3 fa ⟨s'.heap, kA.toList, hal, rfl, hk'⟩
/-- sorted(xs, key=f) behind the evaluation of its arguments -/
theorem sort_core {f : Value} {pins : List (Addr × Obj)} {σ : SL} {H : Hp} {M : DM} {s : Shared} {d : D} {v : V} {u : Value} {xs : List D} {g : D → D} {Q : VK} {Q' : DVK} (I : Inv X pins σ H s) (rv : Rep X.K H d v) (r : RelV v u) (m : RM X.K H M) (hd : dItems d M = some xs) (hnt : d ≠ .tup xs)
    (hf : ∀ a : Addr, Builtin.«list.sort» ⟨[.ref a], [(Str.ofString "key", f)]⟩ = ksk_tree a f false) (kr : KeyRun X pins σ H M s f xs g) (hu : X.A.in1.in1.units + 40 < cLine) (hok : (xs.map g).all (dOk 32) = true) (hal : AllAlike ((xs.map g).map D.py)) (hsk : SortOk ((xs.map g).map D.py))
    (q : ∀ p, M p = none → Q' (.ref p) (mput M p (.lst (xs.mergeSort (dataLe false fun x => D.py (g x)))))) (kk : ∀ d v M' H', Grow H H' → Rep X.K H' d v → RM X.K H' M' → Q' d M' → Q v H') :
    wpAny (model X.prog X.w) X.A (call (.builtin "sorted") [u] [(Str.ofString "key", f)]) (EP X pins σ Q) X.xe s := by
  obtain ⟨b, xv, rfl, z, l3, h6⟩ := lst_of rv m hd hnt
  obtain ⟨its, r2, pl, _⟩ := I.list h6
  obtain rfl : u = Value.ref b := r
  have hz : its.length ≤ sizeLine := by rw [← r2.length]; exact z
  refine sorted_of_sort pl.isList hz (ksk_s1 _ _) (fun _ => ksk_l1 _ _) fun E' => ?_
  rw [hf]
  obtain ⟨a, hae⟩ : ∃ a, a = s.heap.objs.size + 1 := ⟨_, rfl⟩
  rw [← hae]
  have ho : (copyHeap s.heap its).get? a = some (seqObj "list" its.toArray 0) := by rw [hae]; exact copyHeap_at s.heap its
  have hla : a < (copyHeap s.heap its).objs.size := Heap.lt_size ho
  obtain ⟨e1, ho1⟩ : ∃ e1, ((copyHeap s.heap its).update a (Obj.mapSeq fun _ => (#[] : Array Value))).get? a = some (seqObj "list" #[] e1) := ⟨_, get?_update_seq ho fun _ => #[]⟩
  have hkS : (((copyHeap s.heap its).update a (Obj.mapSeq fun _ => (#[] : Array Value))).push (seqObj "tuple" its.toArray 0)).objs.size = (copyHeap s.heap its).objs.size + 1 := by rw [size_push', Heap.size_update]
  have old : ∀ b o, s.heap.get? b = some o → (sortingHeap (copyHeap s.heap its) a its).get? b = some o := fun b o q => sortingHeap_old (Nat.ne_of_lt (Nat.lt_of_lt_of_le (Heap.lt_size q) (by rw [hae]; exact Nat.le_succ _))) (copyHeap_old q)
  have ga : s.heap.get? a = none := Heap.get?_none_of_le (by omega)
  have fa0 : H a = none := I.hok.fresh (by omega)
  unfold ksk_tree
  refine wpAny_bind (listItems_at ho rfl ?_)
  refine wpAny_bind (listUpdate_at ho rfl ?_ (by rw [List.size_toArray]; exact hz) (Nat.zero_le _))
  refine wpAny_bind (seqEpoch_at ho1 rfl ?_)
  refine wpAny_bind (wpAny_newTuple ?_ (by show its.length ≤ _; exact hz))
  refine wpAny_bind (wpAny_newList ?_ (Nat.zero_le _))
  refine wpAny_holding ?_
  have szk : s.heap.objs.size ≤ (((copyHeap s.heap its).update a (Obj.mapSeq fun _ => (#[] : Array Value))).push (seqObj "tuple" its.toArray 0)).objs.size := by rw [hkS]; omega
  refine key_loop (kS := (((copyHeap s.heap its).update a (Obj.mapSeq fun _ => (#[] : Array Value))).push (seqObj "tuple" its.toArray 0)).objs.size) kr I l3 r2 hz hok hal hsk hu szk (by omega) (Nat.ne_of_gt (by rw [hkS]; omega))
    ⟨H, #[], 0, [], Un.kept old, .refl H, I.hok.kept old, m, I.bare, rfl, Heap.get?_push_size _ rfl, Heap.get?_push_of_some _ (Heap.get?_push_of_some _ ho1), I.hok.fresh szk, fa0, .nil, .nil⟩ fun Hj s' out c un gr hk rm bare os na fa ko => ⟨rfl, ?_⟩
  have ko' : KeyedOut false (xs.map fun x => D.py (g x)) its out := by
    rw [List.map_map] at ko
    exact ko
  obtain ⟨vs', h7, h8⟩ := each_rel (keyedOut_each (fun x => D.py (g x)) ko' (rel_each (l3.grow gr) r2))
  have hlen : vs'.length ≤ sizeLine := by
    rw [← h8.length, List.length_mergeSort, l3.length]
    exact z
  exact ⟨.ref a, upd Hj a (.lst vs'), I.call' (ch := []) os (un_adopt un ga fa0 fa) (hok_adopt hk fa ⟨hlen, out, c, h7, na⟩) bare (fun b z => absurd z (by simp)), rfl,
    kk _ _ _ _ (gr.trans (.new fa)) (.ref _) (rm.newLst fa hlen h8) (q _ (rm.free fa))⟩
theorem c_sortK {k f : Nat} {fd : FuncData} {ps : List Str} {dsp : DSp} (F : FnOk X.prog X.w X.K X.mg X.base CX0 k f fd ps (upSp X.K dsp)) (hb : Binds X.K fd ps []) (hr : Room k X.A.in1.in1) :
    CallRK X (.builtin "sorted") [Str.ofString "key"] (fun vs zs H Q => zs = [V.ref f] ∧ upC X.K (rSortK dsp) vs H Q) := by
  intro pins s σ H vs zs us ws Q I r rz ⟨ez, ds, M, Q', l, m, ⟨d, xs, g, e, hd, hnt, pure, hok, hal, hsk, q⟩, kk⟩
  subst e
  subst ez
  obtain ⟨v, e, rv⟩ := repL_one l
  subst e
  obtain ⟨u, eu, ru⟩ := vals1 r
  subst eu
  obtain ⟨w1, rfl, e1⟩ := vals1 rz
  obtain rfl : w1 = Value.ref f := e1
  have hu : X.A.in1.in1.units + 40 < cLine := by
    have := hr.un
    omega
  refine sort_core I rv ru m hd hnt (fun a => ksk_t1 _ a) (fun Hj s' d v x hdm un gr J rm rd ru => ?_) hu hok hal hsk q kk
  have hsp : upSp X.K dsp [v] Hj (fun v H' => Grow Hj H' ∧ Rep X.K H' (g d) v ∧ RM X.K H' M) E0 :=
    ⟨[d], M, fun y M' => y = g d ∧ M' = M, .one rd, rm, pure d hdm _ ⟨rfl, rfl⟩, fun y v' M' H' g1 r1 m1 ⟨h1, h2⟩ => by subst h1 h2; exact ⟨g1, r1, m1⟩⟩
  refine wpAny_call (codeAny_mono (F.run X.A.in1.in1 X.stack s' Hj ⟨[x], []⟩ [x] [v] _ E0 hr J.env0.in1.in1 (hb s' [x] J.kIn (F.len [v] Hj _ E0 hsp)) (.cons ru .nil) hsp) fun r s'' hq => ?_)
  cases r with
  | error e => exact False.elim hq
  | ok fl =>
    cases fl with
    | ret u => exact hq
    | next => exact False.elim hq
    | brk => exact False.elim hq
    | cont => exact False.elim hq
/-- sorted(e, key=x) -/
theorem d_sortK {k : Nat} {x : Str} {ps : List Str} {dsp : DSp} {e : Expr} {p p2 kp pos : Pos} {t : DTA} (C : Cal X.prog X.w X.K X.mg X.base k x ps dsp) (hr : Room k X.A.in1.in1) (hg : Gl X x) (hgs : Gl X "sorted") (hms : X.mg "sorted" = none) (ha : DA X [e] t)
    (hdb : (x == ("__debug__" : Str)) = false := by decide) (he : backTo pos (starEach [e] X.env) = [(false, eval e X.env)] := by rfl) (hpl : (backTo pos (starEach [e] X.env)).any (·.1) = false := by rfl)
    (hall : (backToKw pos (keywordEach [⟨some (Str.ofString "key"), .Name x p2, kp⟩] X.env)).all (·.1.isSome) = true := by rfl) (hnone : (backToKw pos (keywordEach [⟨some (Str.ofString "key"), .Name x p2, kp⟩] X.env)).any (·.1.isNone) = false := by rfl)
    (hks : (backToKw pos (keywordEach [⟨some (Str.ofString "key"), .Name x p2, kp⟩] X.env)).filterMap (·.1) = [Str.ofString "key"] := by rfl) :
    DE X (.Call (.Name "sorted" p) [e] [⟨some (Str.ofString "key"), .Name x p2, kp⟩] pos) (dCB (rSortK dsp) t) := by
  obtain ⟨f, fd, F, hm, hk, hb⟩ := C.ex
  refine imE (pe_callBK (c_sortK F hb hr) hgs hms boot_sorted ha (pk_cons (pe_glob (v := .ref f) hg hm rfl hdb) pk_nil) (by decide) (by decide) he hpl hall hnone hks) fun σ H Q ⟨m, M, Q', r, q, kk⟩ => ?_
  refine ⟨m, M, _, r, q, fun ds vs M1 H1 g1 l1 m1 q1 => ?_⟩
  exact ⟨rfl, ds, M1, Q', l1, m1, q1, fun d v M2 H2 g2 => kk d v M2 H2 (g1.trans g2)⟩
end
end DL
/-! reversed, zip, a tuple times a number -/
namespace DL
open PySem PySem.Spec PyProof.Rows L2

section
variable {X : Cx} {tg e e2 : Expr} {te : DTE} {t : DTA} {p p2 pos pos2 : Pos}
/-! ### for .. in reversed(a tuple or a frozen list) -/
def diRev (te : DTE) : DTI := fun m M Q => te m M fun d M1 => ∃ xs, (d = .tup xs ∨ d = .lst xs) ∧ Q (xs.reverse, none) M1
theorem rev_at {α : Type} {xs : List α} {i : Nat} (h : i < xs.length) : xs.reverse[i]? = xs[xs.length - 1 - i]? := List.getElem?_reverse h
theorem di_rev (hg : Gl X "reversed") (hm : X.mg "reversed" = none) (he : DE X e te) (hs : starEach [e] X.env = (false, eval e X.env) :: starEach [] X.env := by rfl) : DI X tg (.Call (.Name "reversed" p) [e] [] pos) (diRev te) :=
  imI (RT.pi_revA hg hm he hs) fun σ H Q ⟨m, M, Q', r, q, k⟩ => by
    refine ⟨m, M, _, r, q, fun d v M1 H1 g1 r1 m1 ⟨xs, e1, q1⟩ => ?_⟩
    rcases e1 with e1 | e1
    · subst e1
      cases r1 with
      | @tup _ a vs hf z l =>
        have hl := l.length
        refine ⟨a, vs, rfl, .inr ⟨hf, k _ M1 H1 _ g1 m1 q1 ⟨?_, fun i H2 ok hi => ?_, fun i H2 x H3 ok hi y => ?_, fun H2 ok => ?_⟩⟩⟩
        · show xs.reverse.length ≤ sizeLine
          rw [List.length_reverse, hl]
          exact z
        · have hi' : i < xs.length := by rw [← List.length_reverse (as := xs)]; exact hi
          obtain ⟨w, e3, _⟩ := l.get (i := xs.length - 1 - i) (List.getElem?_eq_getElem (by omega))
          exact ⟨by omega, vs, w, sqT_grow hf ok.1, by rw [← hl]; exact e3⟩
        · have hi' : i < xs.length := by rw [← List.length_reverse (as := xs)]; exact hi
          obtain ⟨e3, hx⟩ := y
          subst e3
          have hx' := hx vs (sqT_grow hf ok.1)
          rw [← hl] at hx'
          obtain ⟨d, e5, rd⟩ := l.get' hx'
          exact ⟨.refl _, fun _ q => q, d, by show xs.reverse[i]? = _; rw [rev_at hi']; exact e5, rd.grow ok.1⟩
        · show vs.length ≤ xs.reverse.length
          rw [List.length_reverse, hl]
          exact Nat.le_refl _
    · subst e1
      cases r1 with
      | @lst _ a vs hf z l =>
        have hl := l.length
        refine ⟨a, vs, rfl, .inl ⟨hf.seq, k _ M1 H1 _ g1 m1 q1 ⟨?_, fun i H2 ok hi => ?_, fun i H2 x H3 ok hi y => ?_, fun H2 ok => ?_⟩⟩⟩
        · show xs.reverse.length ≤ sizeLine
          rw [List.length_reverse, hl]
          exact z
        · have hi' : i < xs.length := by rw [← List.length_reverse (as := xs)]; exact hi
          obtain ⟨w, e3, _⟩ := l.get (i := xs.length - 1 - i) (List.getElem?_eq_getElem (by omega))
          exact ⟨by omega, vs, w, (hf.grow ok.1).seq, by rw [← hl]; exact e3⟩
        · have hi' : i < xs.length := by rw [← List.length_reverse (as := xs)]; exact hi
          obtain ⟨e3, hx⟩ := y
          subst e3
          have hx' := hx vs (hf.grow ok.1).seq
          rw [← hl] at hx'
          obtain ⟨d, e5, rd⟩ := l.get' hx'
          exact ⟨.refl _, fun _ q => q, d, by show xs.reverse[i]? = _; rw [rev_at hi']; exact e5, rd.grow ok.1⟩
        · show vs.length ≤ xs.reverse.length
          rw [List.length_reverse, hl]
          exact Nat.le_refl _
/-! ### tuple(reversed(a list)) -/
def dTupRev (te : DTE) : DTE := fun m M Q => te m M fun d M1 => ∃ xs, dItems d M1 = some xs ∧ d ≠ .tup xs ∧ Q (.tup xs.reverse) M1
theorem d_tupRev (hc : X.calm = true) (hg : Gl X "tuple") (hm : X.mg "tuple" = none) (hg2 : Gl X "reversed") (hm2 : X.mg "reversed" = none) (he : DE X e te)
    (hs : starEach [e] X.env = (false, eval e X.env) :: starEach [] X.env := by rfl)
    (hs2 : starEach [.Call (.Name "reversed" p2) [e] [] pos2] X.env = (false, eval (.Call (.Name "reversed" p2) [e] [] pos2) X.env) :: starEach [] X.env := by rfl) :
    DE X (.Call (.Name "tuple" p) [.Call (.Name "reversed" p2) [e] [] pos2] [] pos) (dTupRev te) :=
  imE (RT.pe_tupRev hc hg hm hg2 hm2 he hs hs2) fun σ H Q ⟨m, M, Q', r, q, k⟩ => by
    refine ⟨m, M, _, r, q, fun d v M1 H1 g1 r1 m1 ⟨xs, e1, hn, q1⟩ => ?_⟩
    obtain ⟨a, ws, rfl, z, l3, h6⟩ := lst_of r1 m1 e1 hn
    refine ⟨a, ws, rfl, h6, fun c hc => ?_⟩
    have g2 : Grow H1 (upd H1 c (.tup ws.reverse)) := .new hc
    exact k _ _ M1 _ (g1.trans g2) (.tup (.of upd_same) (by rw [List.length_reverse]; exact z) (l3.reverse.grow g2)) (m1.new hc) q1
/-! ### for (..) in zip(two tuples) -/
def zipD : List D → List D → List D
  | x :: xs, y :: ys => .tup [x, y] :: zipD xs ys
  | _, _ => []
theorem zipD_len : ∀ xs ys : List D, (zipD xs ys).length = min xs.length ys.length
  | [], ys => by simp [zipD]
  | x :: xs, [] => by simp [zipD]
  | x :: xs, y :: ys => by
    rw [zipD, List.length_cons, List.length_cons, List.length_cons, zipD_len xs ys]
    omega
theorem zipD_get : ∀ {xs ys : List D} {i : Nat} {x y : D}, xs[i]? = some x → ys[i]? = some y → (zipD xs ys)[i]? = some (.tup [x, y])
  | [], _, _, _, _, h, _ => by simp at h
  | _ :: _, [], _, _, _, _, h => by simp at h
  | x :: xs, y :: ys, 0, a, b, h1, h2 => by
    simp at h1 h2
    subst h1 h2
    rfl
  | x :: xs, y :: ys, i + 1, a, b, h1, h2 => by
    rw [zipD, List.getElem?_cons_succ]
    exact zipD_get (by simpa using h1) (by simpa using h2)
def diZip (t : DTA) : DTI := fun m M Q => t m M fun ds M1 => ∃ xs ys, ds = [.tup xs, .tup ys] ∧ Q (zipD xs ys, none) M1
theorem di_zip {elts : List Expr} {kk : Nat} {tpos : Pos} (hg : Gl X "zip") (hm : X.mg "zip" = none) (ha : DA X [e, e2] t)
    (hs : starEach [e, e2] X.env = (false, eval e X.env) :: starEach [e2] X.env := by rfl) (hpl : (backTo pos (starEach [e2] X.env)).any (·.1) = false := by rfl) :
    DI X (.Tuple elts kk tpos) (.Call (.Name "zip" p) [e, e2] [] pos) (diZip t) :=
  imI (RZ.pi_zipA hg hm ha hs hpl) fun σ H Q ⟨m, M, Q', r, q, k⟩ => by
    refine ⟨m, M, _, r, q, fun ds vs M1 H1 g1 r1 m1 ⟨xs, ys, e1, q1⟩ => ?_⟩
    subst e1
    obtain ⟨v, w, e2, rv, rw'⟩ := repL_two r1
    subst e2
    cases rv with
    | @tup _ a vs hf z l =>
      cases rw' with
      | @tup _ b ws hf2 z2 l2 =>
        have hl := l.length
        have hl2 := l2.length
        have hlen : (zipD xs ys).length = min xs.length ys.length := zipD_len xs ys
        refine ⟨a, b, vs, ws, rfl, .inr ⟨hf, hf2, k _ M1 H1 _ g1 m1 q1 ⟨?_, fun i H2 ok hi => ?_, fun i H2 x H3 ok hi y => ?_, fun H2 ok => ?_⟩⟩⟩
        · show (zipD xs ys).length ≤ sizeLine
          rw [hlen]
          omega
        · have hi' : i < min xs.length ys.length := by rw [← hlen]; exact hi
          obtain ⟨w1, e3, _⟩ := l.get (i := i) (List.getElem?_eq_getElem (by omega))
          obtain ⟨w2, e4, _⟩ := l2.get (i := i) (List.getElem?_eq_getElem (by omega))
          exact ⟨vs, ws, w1, w2, sqT_grow hf ok.1, sqT_grow hf2 ok.1, e3, e4⟩
        · obtain ⟨T, x1, y1, e3, hT, e4, hx, hy⟩ := y
          subst e3
          subst e4
          obtain ⟨d1, e5, rd1⟩ := l.get' (hx _ (sqT_grow hf ok.1))
          obtain ⟨d2, e6, rd2⟩ := l2.get' (hy _ (sqT_grow hf2 ok.1))
          refine ⟨.new hT, fun M2 rm => rm.new hT, .tup [d1, d2], zipD_get e5 e6, ?_⟩
          exact .tup (.of upd_same) (by show 2 ≤ sizeLine; decide) (.cons (rd1.grow (ok.1.trans (.new hT))) (.cons (rd2.grow (ok.1.trans (.new hT))) .nil))
        · refine ⟨vs, ws, sqT_grow hf ok.1, sqT_grow hf2 ok.1, ?_⟩
          show vs.length ≤ (zipD xs ys).length ∨ ws.length ≤ (zipD xs ys).length
          rw [hlen]
          omega
end
/-! ### a tuple, times 0 or 1 -/
theorem tuple_mul1 (l : Addr) (items : Array Value) (n : Nat) (dd : Option Addr) (sl : Array (Option Value)) (u : Tok) :
    Meets (Builtin.«tuple.__mul__» ⟨[.ref l, .int 1 u], []⟩) (fun _ R s => s.heap.get? l = some { cls := .type "tuple", dict := dd, data := .seq items n, slots := sl } ∧ R (.ok (.ret (Value.ref l))) s) :=
  .of_wp fun prog w A R s h => by
    obtain ⟨hp, g, d, tk, os⟩ := s
    obtain ⟨hl, h⟩ := h
    have f1 := AutoSeq1.idx_int
    wp_walk using wpAny_loadPart' hl
    exact ⟨_, rfl, h⟩
theorem tuple_mul0 (l : Addr) (items : Array Value) (n : Nat) (dd : Option Addr) (sl : Array (Option Value)) (u : Tok) (c1 : (items.isEmpty || (0 : Int) == 1) = false) :
    Meets (Builtin.«tuple.__mul__» ⟨[.ref l, .int 0 u], []⟩) (fun _ R s => s.heap.get? l = some { cls := .type "tuple", dict := dd, data := .seq items n, slots := sl } ∧
      R (.ok (.ret (Value.ref s.heap.objs.size))) { s with heap := s.heap.push { cls := Value.type "tuple", data := Data.seq #[] }, toks := s.toks }) :=
  .of_wp fun prog w A R s h => by
    obtain ⟨hp, g, d, tk, os⟩ := s
    obtain ⟨hl, h⟩ := h
    have f1 := AutoSeq1.idx_int
    wp_walk using wpAny_loadPart' hl
    repeat (first
      | (refine wpAny_ite_false (decide_eq_false (by rw [c1]; exact Bool.false_ne_true)) ?_; wp_walk using wpAny_loadPart' hl))
    exact ⟨_, rfl, h⟩
def rRep01 (K : PySem.W.Frag) : R2 := fun x y H Q => ∃ l k xs, x = .ref l ∧ y = .int k ∧ SqT K H l xs ∧ xs ≠ [] ∧ ((k = 1 ∧ Q (.ref l) H) ∨ (k = 0 ∧ ∀ p, H p = none → Q (.ref p) (upd H p (.tup []))))
section
variable {X : Cx}
theorem op_rep01 : OpR X (binaryOp .Mult) (rRep01 X.K) := by
  intro pins s σ H x y v u Q I rx ry h
  obtain ⟨l, k, xs, rfl, rfl, hT, hne, h⟩ := h
  cases rx
  obtain ⟨t, rfl⟩ := ry
  obtain ⟨its, r, ⟨⟨cls, dd, data, sl⟩, ho, hc, n, hd⟩, hs⟩ := I.tuple hT
  simp only at hc hd
  subst hc hd
  have hle : its.length = xs.length := r.length.symm
  have hn : its ≠ [] := fun e => hne (by
    rw [e] at hle
    exact List.eq_nil_of_length_eq_zero hle.symm)
  have hi : its.toArray.isEmpty = false := by
    cases its with
    | nil => exact absurd rfl hn
    | cons a b => rfl
  rcases h with ⟨rfl, q⟩ | ⟨rfl, q⟩
  · refine wpAny_binaryOp_repeat_ref (T := "tuple") (U := "int") (by decide) ⟨_, ho, rfl⟩ (fun s' => typeIs_int s' 1 t) noFill_tuple_mul F.fills_int_mul F.slot_int_rmul repeat_tuple F.slot_int_index.lookup
      (call_meets F.slot_int_rmul (typeIs_int s 1 t) F.entry_int_rmul (F.args_int_rmul_2 _ _) (int_rmul_tuple 1 t l its.toArray n dd sl)
        ⟨ho, rfl, ⟨_, ho, rfl⟩, call_meets F.slot_tuple_mul ⟨_, ho, rfl⟩ F.entry_tuple_mul (F.args_tuple_mul_2 _ _) (tuple_mul1 l its.toArray n dd sl t) ⟨ho, ?_⟩⟩)
    exact ⟨.ref l, H, I, rfl, q⟩
  · refine wpAny_binaryOp_repeat_ref (T := "tuple") (U := "int") (by decide) ⟨_, ho, rfl⟩ (fun s' => typeIs_int s' 0 t) noFill_tuple_mul F.fills_int_mul F.slot_int_rmul repeat_tuple F.slot_int_index.lookup
      (call_meets F.slot_int_rmul (typeIs_int s 0 t) F.entry_int_rmul (F.args_int_rmul_2 _ _) (int_rmul_tuple 0 t l its.toArray n dd sl)
        ⟨ho, rfl, ⟨_, ho, rfl⟩, call_meets F.slot_tuple_mul ⟨_, ho, rfl⟩ F.entry_tuple_mul (F.args_tuple_mul_2 _ _) (tuple_mul0 l its.toArray n dd sl t (by rw [hi]; rfl)) ⟨ho, ?_⟩⟩)
    refine ⟨.ref s.heap.objs.size, _, I.laid (t' := s.toks) (o := .tup []) (fun b ob q => Heap.get?_push_of_some _ q) (Nat.le_refl _) ?_, rfl, q _ (I.hok.fresh (Nat.le_refl _))⟩
    exact ⟨Nat.zero_le _, [], .nil, IsTup.new _ _⟩
/-- a tuple * int -/
def dMulT : DR2 := fun x y M Q => ∃ xs k, x = .tup xs ∧ y = .int k ∧ xs ≠ [] ∧ 0 ≤ k ∧ k ≤ 1000 ∧ xs.length ≤ 1000 ∧ Q (.tup (List.replicate k.toNat xs).flatten) M
theorem o_mulT : DOp X (binaryOp .Mult) dMulT := by
  intro pins s σ H x y v u Q I rx ry ⟨d, e, M, Q', r1, r2, m, ⟨xs, k, e1, e2, hne, h0, h1, hz, q⟩, kk⟩
  subst e1 e2
  cases r2
  cases r1 with
  | @tup _ a vs hf z l =>
    have hl := l.length
    have hvn : vs ≠ [] := fun e => hne (by
      rw [e] at hl
      exact List.eq_nil_of_length_eq_zero hl)
    by_cases c1 : k = 1
    · subst c1
      have er : (List.replicate (1 : Int).toNat xs).flatten = xs := by simp
      rw [er] at q
      exact op_rep01 pins s σ H _ _ v u Q I rx ry ⟨a, 1, vs, rfl, rfl, hf, hvn, .inl ⟨rfl, kk _ _ M H (.refl H) (.tup hf z l) m q⟩⟩
    · by_cases c0 : k = 0
      · subst c0
        have er : (List.replicate (0 : Int).toNat xs).flatten = [] := by simp
        rw [er] at q
        exact op_rep01 pins s σ H _ _ v u Q I rx ry ⟨a, 0, vs, rfl, rfl, hf, hvn, .inr ⟨rfl, fun p hp => kk _ _ M _ (.new hp) (.tup (.of upd_same) (Nat.zero_le _) .nil) (m.new hp) q⟩⟩
      · refine op_repT pins s σ H _ _ v u Q I rx ry ⟨a, k, vs, rfl, rfl, hf, hvn, by omega, h1, by omega, fun p hp => ?_⟩
        have g2 : Grow H (upd H p (.tup (List.replicate k.toNat vs).flatten)) := .new hp
        refine kk _ _ M _ g2 (.tup (.of upd_same) ?_ ((RepL.rep l _).grow g2)) (m.new hp) q
        rw [PyProof.Rows.lm_len_rep_flat, sizeLine_eq]
        have a1 : k.toNat * vs.length ≤ 1000 * 1000 := Nat.mul_le_mul (by omega) (by omega)
        omega
end
end DL
/-! dicts whose keys are tuples -/
namespace DL
open PySem PySem.Spec PyProof.Rows L2

/-! ### keys -/
mutual
theorem nk_inj : ∀ {a b : D}, kOk a = true → kOk b = true → nk a = nk b → a = b
  | .int i, b, _, hb, e => by cases b <;> simp_all [nk, kOk]
  | .str x, b, _, hb, e => by cases b <;> simp_all [nk, kOk]
  | .non, b, _, hb, e => by cases b <;> simp_all [nk, kOk]
  | .tup xs, .tup ys, ha, hb, e => by
    rw [nk, nk] at e
    injection e with e
    rw [nks_inj (xs := xs) (ys := ys) (by simpa [kOk] using ha) (by simpa [kOk] using hb) e]
  | .tup xs, .int _, _, _, e => by simp [nk] at e
  | .tup xs, .str _, _, _, e => by simp [nk] at e
  | .tup xs, .non, _, _, e => by simp [nk] at e
  | .tup xs, .bl _, _, hb, _ => by simp [kOk] at hb
  | .tup xs, .lst _, _, hb, _ => by simp [kOk] at hb
  | .tup xs, .dct _, _, hb, _ => by simp [kOk] at hb
  | .tup xs, .dmt _ _, _, hb, _ => by simp [kOk] at hb
  | .tup xs, .ref _, _, hb, _ => by simp [kOk] at hb
  | .tup xs, .ty _, _, hb, _ => by simp [kOk] at hb
  | .bl _, _, ha, _, _ => by simp [kOk] at ha
  | .lst _, _, ha, _, _ => by simp [kOk] at ha
  | .dct _, _, ha, _, _ => by simp [kOk] at ha
  | .dmt _ _, _, ha, _, _ => by simp [kOk] at ha
  | .ref _, _, ha, _, _ => by simp [kOk] at ha
  | .ty _, _, ha, _, _ => by simp [kOk] at ha
theorem nks_inj : ∀ {xs ys : List D}, kOks xs = true → kOks ys = true → nks xs = nks ys → xs = ys
  | [], [], _, _, _ => rfl
  | [], y :: ys, _, _, e => by simp [nks] at e
  | x :: xs, [], _, _, e => by simp [nks] at e
  | x :: xs, y :: ys, ha, hb, e => by
    rw [kOks, Bool.and_eq_true] at ha hb
    rw [nks, nks] at e
    injection e with e1 e2
    rw [nk_inj ha.1 hb.1 e1, nks_inj ha.2 hb.2 e2]
end
section
variable {X : Cx} {pins : List (Addr × Obj)} {σ : SL} {H : Hp} {s : Shared}
mutual
theorem Rep.nested (I : Inv X pins σ H s) : ∀ {d : D} {v : V} {u : Value}, Rep X.K H d v → RelV v u → kOk d = true → NestedIs s.heap (nk d) u
  | _, _, _, .non, r, _ => by cases r; exact .none
  | _, _, _, .int i, r, _ => by
    obtain ⟨t, rfl⟩ := r
    exact .int i t
  | _, _, _, .str x, r, _ => by
    obtain ⟨t, rfl⟩ := r
    exact .text x t
  | _, _, _, .tup hs z l, r, h => by
    cases r
    obtain ⟨its, rv, ⟨o, h1, h2, n, h3⟩, hz⟩ := I.tuple hs
    exact .tup h1 h2 h3 (RepL.nested I l rv (by simpa [kOk] using h))
  | _, _, _, .bl _, _, h => by simp [kOk] at h
  | _, _, _, .lst _ _ _, _, h => by simp [kOk] at h
  | _, _, _, .ref _, _, h => by simp [kOk] at h
  | _, _, _, .ty _, _, h => by simp [kOk] at h
  | _, _, _, .dct _ _ _, _, h => by simp [kOk] at h
  | _, _, _, .dmt _ _ _, _, h => by simp [kOk] at h
theorem RepL.nested (I : Inv X pins σ H s) : ∀ {ds : List D} {vs : List V} {us : List Value}, RepL X.K H ds vs → Vals vs us → kOks ds = true → NestedAll s.heap (nks ds) us
  | _, _, _, .nil, .nil, _ => .nil
  | _, _, _, .cons a l, .cons r rs, h => by
    rw [kOks, Bool.and_eq_true] at h
    exact .cons (Rep.nested I a r h.1) (RepL.nested I l rs h.2)
end
/-! ### what a dict's object says -/
abbrev EsXs : List (NestedKey × Addr × V) → List (NestedKey × Addr × Value) → Prop := Paired fun p q => p.1 = q.1 ∧ p.2.1 = q.2.1 ∧ RelV p.2.2 q.2.2
theorem RepKV.is {K : PySem.W.Frag} (I : Inv X pins σ H s) (hK : K = X.K) : ∀ {kvs : List (D × D)} {es : List (NestedKey × Addr × V)} {xs : List (NestedKey × Addr × Value)}, RepKV K H kvs es → EsXs es xs → ∀ x ∈ xs, (nestedKind X.prog X.w).is s.heap x.1 x.2.1
  | _, _, _, .nil, .nil, x, hx => nomatch hx
  | _, _, _, .cons a b c d e, .cons ⟨h1, h2, _⟩ t, x, hx => by
    subst hK
    rcases List.mem_cons.mp hx with rfl | hx
    · rw [← h1, ← h2]
      exact ⟨Rep.nested I a rfl b, c⟩
    · exact RepKV.is I rfl e t x hx
theorem dict_of {a : Addr} {kvs : List (D × D)} {es : List (NestedKey × Addr × V)} (I : Inv X pins σ H s) (h : H a = some (DictO X.w a es)) (r : RepKV X.K H kvs es) :
    (a == sysModules) = false ∧ ∃ xs, EsXs es xs ∧ s.heap.DictOfH (nestedKind X.prog X.w) a xs := by
  obtain ⟨⟨xs, pr, ⟨o, ents, ep, h1, h2, h3, h4⟩, nd, hs⟩, _, _⟩ := I.hok a _ h
  exact ⟨hs, xs, pr, o, ents, ep, h1, h2, h3, h4, RepKV.is I rfl r pr, nd⟩
theorem dict_new {P : Program} {w : World} {H' : Hp} {h : Heap} {a : Addr} {es : List (NestedKey × Addr × V)} {xs : List (NestedKey × Addr × Value)} (hs : (a == sysModules) = false) (pr : EsXs es xs) (dd : h.DictOfH (nestedKind P w) a xs) : ObjOk P w H' h a (DictO w a es) := by
  obtain ⟨o, ents, ep, h1, h2, h3, h4, _, nd⟩ := dd
  refine ⟨⟨xs, pr, ⟨o, ents, ep, h1, h2, h3, h4⟩, nd, hs⟩, ⟨o, h1⟩, fun g1 g2 ⟨ys, py, ⟨o', en, e', k1, k2, k3, k4⟩, nd', hs'⟩ k => ⟨ys, py, ⟨o', en, e', k o' k1, k2, k3, k4⟩, nd', hs'⟩⟩
/-! ### looking up, storing -/
def atV (es : List (NestedKey × Addr × V)) (k : NestedKey) : Option V := (es.find? fun x => decide (x.1 = k)).map fun x => x.2.2
def dget (kvs : List (D × D)) (k : D) : Option D := (kvs.find? fun p => decide (nk p.1 = nk k)).map (·.2)
def dhas (kvs : List (D × D)) (k : D) : Bool := kvs.any fun p => decide (nk p.1 = nk k)
def dput (kvs : List (D × D)) (k v : D) : List (D × D) := if dhas kvs k = true then kvs.map fun p => if nk p.1 = nk k then (p.1, v) else p else kvs ++ [(k, v)]
def storeV (es : List (NestedKey × Addr × V)) (k : NestedKey) (b : Addr) (y : V) : List (NestedKey × Addr × V) := if (es.any fun x => decide (x.1 = k)) = true then es.map fun x => if x.1 = k then (x.1, x.2.1, y) else x else es ++ [(k, b, y)]
theorem atV_at : ∀ {es : List (NestedKey × Addr × V)} {xs : List (NestedKey × Addr × Value)} {k : NestedKey}, EsXs es xs → RelO (atV es k) ((atKey xs k).map (·.2))
  | _, _, k, .nil => by
    show RelO none none
    trivial
  | _, _, k, .cons (a := p) (b := q) ⟨h1, h2, h3⟩ t => by
    have ih := atV_at (k := k) t
    unfold atV atKey at ih ⊢
    rw [List.find?_cons, List.find?_cons, ← h1]
    cases decide (p.1 = k) with
    | true => exact h3
    | false => exact ih
theorem dget_at {K : PySem.W.Frag} : ∀ {kvs : List (D × D)} {es : List (NestedKey × Addr × V)} {k : D}, RepKV K H kvs es → (dget kvs k = none ∧ atV es (nk k) = none) ∨ ∃ d y, dget kvs k = some d ∧ atV es (nk k) = some y ∧ Rep K H d y
  | _, _, k, .nil => .inl ⟨rfl, rfl⟩
  | _, _, k, .cons (k := k1) a b c d e => by
    have ih := dget_at (k := k) e
    unfold dget atV at ih ⊢
    rw [List.find?_cons, List.find?_cons]
    show (_ ∧ _) ∨ _
    cases hk : decide (nk k1 = nk k) with
    | true => exact .inr ⟨_, _, rfl, rfl, d⟩
    | false => exact ih
theorem any_at : ∀ {es : List (NestedKey × Addr × V)} {xs : List (NestedKey × Addr × Value)} {k : NestedKey}, EsXs es xs → (atKey xs k).isSome = es.any fun x => decide (x.1 = k)
  | _, _, k, .nil => rfl
  | _, _, k, .cons (a := p) (b := q) ⟨h1, h2, h3⟩ t => by
    have ih := any_at (k := k) t
    unfold atKey at ih ⊢
    rw [List.find?_cons, List.any_cons, ← h1]
    cases decide (p.1 = k) with
    | true => rfl
    | false => exact ih
theorem EsXs.put {k : NestedKey} {y : V} {r : Value} (ry : RelV y r) : ∀ {es : List (NestedKey × Addr × V)} {xs : List (NestedKey × Addr × Value)}, EsXs es xs → EsXs (es.map fun x => if x.1 = k then (x.1, x.2.1, y) else x) (xs.map (putAt k r))
  | _, _, .nil => .nil
  | _, _, .cons (a := p) (b := q) h t => by
    refine .cons ?_ (EsXs.put ry t)
    obtain ⟨h1, h2, h3⟩ := h
    by_cases c : p.1 = k
    · have hq : q.1 = k := by rw [← h1]; exact c
      simp only [putAt, if_pos c, if_pos hq]
      exact ⟨h1, h2, ry⟩
    · have hq : ¬ q.1 = k := by rw [← h1]; exact c
      simp only [putAt, if_neg c, if_neg hq]
      exact ⟨h1, h2, h3⟩
theorem EsXs.store {es : List (NestedKey × Addr × V)} {xs : List (NestedKey × Addr × Value)} {k : NestedKey} {b : Addr} {y : V} {r : Value} (p : EsXs es xs) (ry : RelV y r) : EsXs (storeV es k b y) (storedH xs k b r) := by
  unfold storeV storedH
  rw [any_at p]
  split
  · exact EsXs.put ry p
  · exact Paired.snoc p ⟨rfl, rfl, ry⟩
theorem has_any {K : PySem.W.Frag} {k : D} : ∀ {kvs : List (D × D)} {es : List (NestedKey × Addr × V)}, RepKV K H kvs es → (es.any fun x => decide (x.1 = nk k)) = dhas kvs k
  | _, _, .nil => rfl
  | _, _, .cons _ _ _ _ e => by
    have ih := has_any (k := k) e
    unfold dhas at ih ⊢
    rw [List.any_cons, List.any_cons, ih]
theorem RepKV.len {K : PySem.W.Frag} : ∀ {kvs : List (D × D)} {es : List (NestedKey × Addr × V)}, RepKV K H kvs es → kvs.length = es.length
  | _, _, .nil => rfl
  | _, _, .cons _ _ _ _ e => by rw [List.length_cons, List.length_cons, RepKV.len e]
theorem RepKV.put {K : PySem.W.Frag} {k v : D} {y : V} (rv : Rep K H v y) : ∀ {kvs : List (D × D)} {es : List (NestedKey × Addr × V)}, RepKV K H kvs es →
    RepKV K H (kvs.map fun p => if nk p.1 = nk k then (p.1, v) else p) (es.map fun x => if x.1 = nk k then (x.1, x.2.1, y) else x)
  | _, _, .nil => .nil
  | _, _, .cons (k := k1) a b c d e => by
    rw [List.map_cons, List.map_cons]
    by_cases h : nk k1 = nk k
    · rw [if_pos h, if_pos h]
      exact .cons a b c rv (RepKV.put rv e)
    · rw [if_neg h, if_neg h]
      exact .cons a b c d (RepKV.put rv e)
theorem RepKV.snoc {K : PySem.W.Frag} {k v : D} {b : Addr} {y : V} (rk : Rep K H k (.ref b)) (hk : kOk k = true) (hd : (nk k).depth ≤ 8) (rv : Rep K H v y) : ∀ {kvs : List (D × D)} {es : List (NestedKey × Addr × V)}, RepKV K H kvs es → RepKV K H (kvs ++ [(k, v)]) (es ++ [(nk k, b, y)])
  | _, _, .nil => .cons rk hk hd rv .nil
  | _, _, .cons a b c d e => .cons a b c d (RepKV.snoc rk hk hd rv e)
theorem RepKV.store {K : PySem.W.Frag} {k v : D} {b : Addr} {y : V} {kvs : List (D × D)} {es : List (NestedKey × Addr × V)} (r : RepKV K H kvs es) (rk : Rep K H k (.ref b)) (hk : kOk k = true) (hd : (nk k).depth ≤ 8) (rv : Rep K H v y) :
    RepKV K H (dput kvs k v) (storeV es (nk k) b y) := by
  unfold dput storeV
  rw [has_any r]
  split
  · exact RepKV.put rv r
  · exact RepKV.snoc rk hk hd rv r
theorem storeV_len (es : List (NestedKey × Addr × V)) (k : NestedKey) (b : Addr) (y : V) : (storeV es k b y).length ≤ es.length + 1 := by
  unfold storeV
  split
  · rw [List.length_map]
    omega
  · rw [List.length_append, List.length_singleton]
    exact Nat.le_refl _
/-- d[k] = v -/
theorem dict_set {a b : Addr} {k : D} {y : V} {r : Value} {kvs : List (D × D)} {es : List (NestedKey × Addr × V)} {Q : Unit → Shared → Prop} {E : Value → Shared → Prop} (hu : X.A.units + 8 < cLine) (I : Inv X pins σ H s) (h : H a = some (DictO X.w a es)) (rkv : RepKV X.K H kvs es)
    (hz : es.length ≤ sizeLine) (rk : Rep X.K H k (.ref b)) (hk : kOk k = true) (hd : (nk k).depth ≤ 8) (ry : RelV y r) (cont : ∀ s', Inv X pins σ (upd H a (DictO X.w a (storeV es (nk k) b y))) s' → Q () s') :
    wpAny (model X.prog X.w) X.A (dictSet a (.ref b) r) Q E s := by
  obtain ⟨hs, xs, pr, dd⟩ := dict_of I h rkv
  have hl : xs.length ≤ sizeLine := by rw [← pr.length]; exact hz
  refine wpAny_dictSet_heap (knd := nestedKind X.prog X.w) (hsz := hl) hu ⟨Rep.nested I rk rfl hk, hd⟩ dd fun h' dd' hsb => cont _ ?_
  obtain ⟨o', _, _, ho', _⟩ := id dd'
  exact d_write I (by rw [h]; exact True.intro) hsb ⟨o', ho'⟩ (dict_new hs (EsXs.store pr ry) dd')
end
/-! ### the mutable part -/
/-- a code object is no dict -/
theorem code_ne_dict {w : World} {p : Addr} {q : Str} {es : List (NestedKey × Addr × V)} : LamX.CodeO p q ≠ DictO w p es := fun z => by
  unfold LamX.CodeO DictO at z
  injection z with z
  have hg : (⟨Array.replicate (p + 1) { cls := .none, data := .fields #[.none, .str q 0] }, {}⟩ : Heap).get? p = some { cls := .none, data := .fields #[.none, .str q 0] } := by
    show (match (Array.replicate (p + 1) ({ cls := .none, data := .fields #[.none, .str q 0] } : Obj))[p]? with | some ⟨_, _, .freed, _⟩ => none | o => o) = _
    rw [Array.getElem?_replicate, if_pos (Nat.lt_succ_self p)]
  have h1 : (fun h : Heap => ∃ (oc : Obj) (vs : Array Value) (t : Tok), h.get? p = some oc ∧ oc.data = .fields vs ∧ vs[1]? = some (.str q t)) ⟨Array.replicate (p + 1) { cls := .none, data := .fields #[.none, .str q 0] }, {}⟩ := ⟨_, _, 0, hg, rfl, rfl⟩
  rw [z] at h1
  obtain ⟨xs, _, ⟨o, ents, ep, e1, _, e3, _⟩, _⟩ := h1
  rw [hg] at e1
  cases e1
  cases e3
theorem Grow.dct {H : Hp} {w : World} {p : Addr} {es : List (NestedKey × Addr × V)} {o : HO} (h : H p = some (DictO w p es)) : Grow H (upd H p o) :=
  ⟨fun b xs e => by rw [upd_ne (ne_of e h (by intro z; cases z))]; exact e, fun b q u e => by rw [upd_ne (ne_of e h (by intro z; cases z))]; exact e, fun b q e => by
    by_cases hb : b = p
    · subst hb
      rw [h] at e
      exact absurd (Option.some.inj e).symm code_ne_dict
    · rw [upd_ne hb]
      exact e⟩
theorem RM.putDct {K : PySem.W.Frag} {H : Hp} {M : DM} {w : World} {p : Addr} {es es' : List (NestedKey × Addr × V)} {kvs : List (D × D)} (h : RM K H M) (hp : H p = some (DictO w p es)) (hz : es'.length ≤ sizeLine) (l : RepKV K H kvs es') :
    RM K (upd H p (DictO w p es')) (mput M p (.dct w kvs)) := fun a q e => by
  have g : Grow H (upd H p (DictO w p es')) := Grow.dct hp
  by_cases ha : a = p
  · subst ha
    rw [mput_same] at e
    cases e
    exact ⟨es', upd_same, hz, l.grow g⟩
  · rw [mput_ne ha] at e
    exact (h a q e).stay (upd_ne ha) g
theorem RM.newDct {K : PySem.W.Frag} {H : Hp} {M : DM} {w : World} {p : Addr} (h : RM K H M) (hp : H p = none) : RM K (upd H p (DictO w p [])) (mput M p (.dct w [])) := fun a q e => by
  by_cases ha : a = p
  · subst ha
    rw [mput_same] at e
    cases e
    exact ⟨[], upd_same, Nat.zero_le _, .nil⟩
  · rw [mput_ne ha] at e
    exact h.new hp a q e
theorem RM.dct {K : PySem.W.Frag} {H : Hp} {M : DM} {w : World} {a : Addr} {kvs : List (D × D)} (h : RM K H M) (e : M a = some (.dct w kvs)) : ∃ es, H a = some (DictO w a es) ∧ es.length ≤ sizeLine ∧ RepKV K H kvs es := h a _ e
/-! ### d.get(k) -/
section
variable {X : Cx} {o e : Expr} {apos cpos : Pos} {to te : DTE}
/-- what may be a key -/
def isKey (k : D) : Prop := (∃ xs, k = .tup xs) ∧ kOk k = true ∧ (nk k).depth ≤ 8
def dDGet1 (w : World) (to te : DTE) : DTE := fun m M Q => to m M fun d M1 => ∃ a, d = .ref a ∧ (∃ kvs, M1 a = some (.dct w kvs)) ∧ te m M1 fun k M2 => ∃ kvs, M2 a = some (.dct w kvs) ∧ isKey k ∧ Q ((dget kvs k).getD .non) M2
theorem d_dget1 {w : World} (hw : X.w = w) (hu : X.A.units + 9 < cLine) (ho : DE X o to) (he : DE X e te) (m : M1 X o "get" apos e cpos := by exact ⟨by rfl, by rfl, by rfl, by rfl⟩) : DE X (.Call (.Attribute o "get" apos) [e] [] cpos) (dDGet1 w to te) := by
  subst hw
  refine ⟨fun pins s σ H Q I ⟨m0, M, Q', r, q, kk⟩ => ?_⟩
  refine wpAny_Call_method m.base m.few m.line PySem.F.plainAttrs_dict PySem.F.slot_dict_get PySem.F.type_dict_get (thn (ho.run pins s σ H (fun x H1 => ∃ a M1, x = .ref a ∧ Grow H H1 ∧ RM X.K H1 M1 ∧ (∃ kvs, M1 a = some (.dct X.w kvs)) ∧ te m0 M1 fun k M2 => ∃ kvs, M2 a = some (.dct X.w kvs) ∧ isKey k ∧ Q' ((dget kvs k).getD .non) M2) I
    ⟨m0, M, _, r, q, fun d v M1 H1 g1 r1 m1 ⟨a, e1, h1, q1⟩ => by subst e1; cases r1; exact ⟨a, M1, rfl, g1, m1, h1, q1⟩⟩) fun u s1 ⟨x, H1, I1, rx, a, M1, ex, g1, m1, ⟨kvs, hk⟩, q1⟩ => ?_)
  subst ex
  obtain rfl : u = Value.ref a := rx
  obtain ⟨es, h1, hz, rkv⟩ := m1.dct hk
  obtain ⟨hs, xs, pr, dd⟩ := dict_of I1 h1 rkv
  refine ⟨dd.typeIs, fun b hb => ?_, ?_⟩
  · cases hb
    obtain ⟨ob, _, _, k1, k2, _⟩ := dd
    exact ⟨ob, k1, k2.2.1⟩
  rw [m.trees]
  refine Calls.callWith_builtin rfl (Calls.evalArgs_plain (Calls.spliced_cons (thn (he.run pins s1 σ H1 (fun y H2 => ∃ k M2 kvs, Rep X.K H2 k y ∧ Grow H H2 ∧ RM X.K H2 M2 ∧ M2 a = some (.dct X.w kvs) ∧ isKey k ∧ Q' ((dget kvs k).getD .non) M2) I1
    ⟨m0, M1, _, r.grow g1 m1, q1, fun d v M2 H2 g2 r2 m2 ⟨kvs, e1, ky, q2⟩ => ⟨d, M2, kvs, r2, g1.trans g2, m2, e1, ky, q2⟩⟩) fun iv s2 ⟨y, H2, I2, ry, k, M2, kvs2, r2, g2, m2, e2, ⟨⟨ks, ek⟩, hok, hdp⟩, q2⟩ => Calls.spliced_nil ?_)))
  subst ek
  cases r2 with
  | @tup _ b vs hf z l =>
    obtain rfl : iv = Value.ref b := ry
    obtain ⟨es2, h2, hz2, rkv2⟩ := m2.dct e2
    obtain ⟨hs2, xs2, pr2, dd2⟩ := dict_of I2 h2 rkv2
    have rk : Rep X.K H2 (.tup ks) (.ref b) := .tup hf z l
    refine call_meetsIn PySem.F.slot_dict_get dd2.typeIs PySem.F.entry_dict_get (PySem.F.args_dict_get_2 _ _) (meetsH_dict_get (nestedKind X.prog X.w) a b hs2) ⟨?_, nk (.tup ks), xs2, ⟨Rep.nested I2 rk rfl hok, hdp⟩, dd2, ?_⟩
    · show X.A.units + 1 + 8 < cLine
      omega
    · have ra := atV_at (k := nk (.tup ks)) pr2
      rcases dget_at (k := .tup ks) rkv2 with ⟨n1, n2⟩ | ⟨d, y', n1, n2, rd⟩
      · rw [n2] at ra
        rw [n1] at q2
        cases ha : (atKey xs2 (nk (.tup ks))).map (·.2) with
        | some v => rw [ha] at ra; exact ra.elim
        | none => exact ⟨.non, H2, I2.tok _, rfl, kk _ _ M2 H2 g2 .non m2 q2⟩
      · rw [n2] at ra
        rw [n1] at q2
        cases ha : (atKey xs2 (nk (.tup ks))).map (·.2) with
        | some v =>
          rw [ha] at ra
          exact ⟨y', H2, I2.tok _, ra, kk _ _ M2 H2 g2 rd m2 q2⟩
        | none => rw [ha] at ra; exact ra.elim
end
end DL
/-! {k: v for .. in ..}, the keys tuples -/
namespace DL
open PySem PySem.Spec PyProof.Rows L2

section
variable {X : Cx}
/-- the reading over V: D the new dict -/
def tDcN (K : PySem.W.Frag) (w : World) (wi : TI) (g : TG) (tt : TT) (tk tv : TE) (vs : List Nat) : TE := fun σ H Q => wi σ H fun J H1 => ∀ da, H1 da = none → ∃ W : Nat → Nat → Hp → Prop, (∃ m, W 0 m (upd H1 da (DictO w da []))) ∧
  ∀ i m H, W i m H → (J.stop i H ∧ Q (.ref da) H) ∨ (J.go i H ∧ ∃ Nx : Hp → Prop, (∀ H', Nx H' → ∃ m', m' < m ∧ W (i + 1) m' H') ∧ ∀ x H', J.yld i H x H' → g x (wipe σ vs) H' fun σ2 H2 => wipe σ2 vs = wipe σ vs ∧ tt σ2 H2 fun c H3 =>
    if c = true then tk σ2 H3 fun y H4 => tv σ2 H4 fun z H5 => ∃ (k : D) (b : Addr) (kvs : List (D × D)) (es : List (NestedKey × Addr × V)), y = .ref b ∧ H5 da = some (DictO w da es) ∧ RepKV K H5 kvs es ∧ es.length ≤ sizeLine ∧ Rep K H5 k (.ref b) ∧ kOk k = true ∧ (nk k).depth ≤ 8 ∧
      Nx (upd H5 da (DictO w da (storeV es (nk k) b z))) else Nx H3)
theorem empty_dict {P : Program} {w : World} {H : Hp} (h : Heap) (hb : sysModules < h.objs.size) : ObjOk P w H (h.push { cls := .type "dict", data := .dict #[] }) h.objs.size (DictO w h.objs.size []) :=
  dict_new (P := P) (beq_eq_false_iff_ne.mpr (Ne.symm (Nat.ne_of_lt hb))) .nil (Heap.DictOfH.new h)
theorem dc_core {pins : List (Addr × Obj)} {s : Shared} {σ : SL} {H : Hp} {Q : VK} {pos' : Pos} {use : Option (Value → Sem Unit)} {Qf : Value → Shared → Prop} {kx vx tg iter : Expr} {ifs : List Expr} {scope : Scope} {own : List (Str × Nat)} {pos : Pos} {wi : TI} {g : TG} {tt : TT} {tk tv : TE} (hu : X.A.units + 8 < cLine) (hc : X.calm = true) (hN : X.N.Nodup) (hi : PI X tg iter wi) (ok : BlkOk X.N X.env.scope scope own)
    (pg : ∀ (s : Shared) (H : Hp) (C : Addr) (cl : List (Str × Addr)) (fp : List Addr), PG (X.blk s H scope (compEnvC scope cl C X.env) fp) tg g)
    (pt : ∀ (s : Shared) (H : Hp) (C : Addr) (cl : List (Str × Addr)) (fp : List Addr), PTs (X.blk s H scope (compEnvC scope cl C X.env) fp) ifs tt)
    (pk : ∀ (s : Shared) (H : Hp) (C : Addr) (cl : List (Str × Addr)) (fp : List Addr), PE (X.blk s H scope (compEnvC scope cl C X.env) fp) kx tk)
    (pv : ∀ (s : Shared) (H : Hp) (C : Addr) (cl : List (Str × Addr)) (fp : List Addr), PE (X.blk s H scope (compEnvC scope cl C X.env) fp) vx tv) (hs : ∀ x, foldedSetIterable iter X.env x = pure x) (I : Inv X pins σ H s)
    (q0 : tDcN X.K X.w wi g tt tk tv (own.map (·.2)) σ H Q) (hRR : ∀ D C s' m H', Inv X pins σ H' s' → Q (.ref D) H' → s'.heap.Ns C m → FpOk X pins H' C → compPost (model X.prog X.w) X.A X.xe use Qf (.ref D) C (.ok .next) s') :
    wpAny (model X.prog X.w) X.A (comprehension (.DictComp kx vx [⟨tg, iter, ifs, 0⟩] scope pos) scope X.env pos' newDict false (eval iter X.env) use) Qf X.xe s := by
  have cap : ∀ y ∈ scope.names, y.2 = .free → ∃ c, X.env.cells.lookup y.1 = some c := by
    intro y hy e
    exact (ok.free y hy e).elim (fun z => I.ok.has _ (.inl z)) fun z => I.ok.has _ (.inr z)
  refine wpAny_comprehension_free (use := use) rfl hs (closure_ok cap) ok.kind (fun y hy e => by rw [ok.uniq y hy, e]) (thn (hi.run pins s σ H _ I q0) fun src sa wa => thn wa fun out sb wb => ?_)
  obtain ⟨itA, ch, tn, J, Hb, rfl, Ib, Tn, stb, fpb, cont⟩ := wb
  refine wpAny_newObj_type (newEnv_comp ?_)
  -- the new dict
  obtain ⟨da, eda⟩ : ∃ da, da = sb.heap.objs.size := ⟨_, rfl⟩
  have nda : Hb da = none := Ib.hok.fresh (by rw [eda]; exact Nat.le_refl _)
  obtain ⟨W, ⟨m0, w0⟩, turn⟩ := cont da nda
  obtain ⟨sc, esc⟩ : ∃ sc : Shared, sc = { sb with heap := sb.heap.push { cls := .type "dict", data := .dict #[] } } := ⟨_, rfl⟩
  obtain ⟨Hc, eHc⟩ : ∃ Hc : Hp, Hc = upd Hb da (DictO X.w da []) := ⟨_, rfl⟩
  have hsc : sc.heap = sb.heap.push { cls := .type "dict", data := .dict #[] } := by rw [esc]
  have Ic : Inv X pins σ Hc sc := by
    rw [eHc, esc, eda]
    exact Ib.laid (t' := sb.toks) (fun b o e => Heap.get?_push_of_some _ e) (Nat.le_refl _) (empty_dict sb.heap Ib.big)
  have fpc : ∀ b ∈ ch, FpOk X pins Hc b ∧ b < sc.heap.objs.size := by
    intro b hb
    obtain ⟨o, e, _⟩ := Tn.obj _ _ stb b hb
    have lt := Heap.lt_size e
    constructor
    · refine ⟨?_, (fpb b hb).2⟩
      rw [eHc, upd_ne (by rw [eda]; exact Nat.ne_of_lt lt)]
      exact (fpb b hb).1
    · rw [hsc, Heap.size_push]
      exact Nat.lt_succ_of_lt lt
  have stc : tn 0 sc.heap := Tn.keep _ _ _ stb fun b _ o e => by rw [hsc]; exact Heap.get?_push_of_some _ e
  have Id := block_start Ic ok hN fpc
  rw [← eHc] at w0
  obtain ⟨cl, ecl⟩ : ∃ cl, cl = cellsFrom (sc.heap.objs.size + 1) scope.names (cloFrom X.env.cells scope.names []) := ⟨_, rfl⟩
  obtain ⟨ce, ece⟩ : ∃ ce : Env, ce = compEnvC scope cl sc.heap.objs.size X.env := ⟨_, rfl⟩
  obtain ⟨sd, esd⟩ : ∃ sd : Shared, sd = { sc with heap := pushCells (sc.heap.push { cls := .type "dict", data := .dict #[] }) scope.names } := ⟨_, rfl⟩
  suffices main : codeAny (model X.prog X.w) X.A (.compStart (.DictComp kx vx [⟨tg, iter, ifs, 0⟩] scope pos) 0 (.ref itA) (.ref da) ce) (compPost (model X.prog X.w) X.A X.xe use Qf (.ref da) sc.heap.objs.size) sd by
    rw [ece, ecl, esd, esc, eda] at main
    exact main
  rw [← ecl, ← ece, ← esd] at Id
  have locC : ce.locals = sc.heap.objs.size := by rw [ece]; rfl
  have std : tn 0 sd.heap := Tn.keep _ _ _ stc fun b _ o e => by
    rw [esd]
    exact pushCells_keeps _ _ _ _ (Heap.get?_push_of_some _ e)
  have still : ∀ {τ : SL} {H' : Hp} {t : Shared}, Inv (X.blk sc Hc scope ce ch) [] τ H' t → (∀ b ∈ ch, H' b = none) → ∀ b ∈ ch, FpOk (X.blk sc Hc scope ce ch) [] H' b := by
    intro τ H' t J' hn b hb
    exact ⟨hn b hb, (J'.ok.exf b hb).1, J'.ok.exfs b hb, .inl hb, fun x c e => (J'.ok.exf b hb).2 x c e, fun p hp => absurd (show p ∈ ([] : List (Addr × Obj)) ++ [] from hp) (by simp)⟩
  have Pg := pg sc Hc sc.heap.objs.size cl ch
  have Pt := pt sc Hc sc.heap.objs.size cl ch
  have Pk := pk sc Hc sc.heap.objs.size cl ch
  have Pv := pv sc Hc sc.heap.objs.size cl ch
  rw [← ece] at Pg Pt Pk Pv
  have walk : codeAny (model X.prog X.w) X.A (.compLoop (.DictComp kx vx [⟨tg, iter, ifs, 0⟩] scope pos) 0 (.ref itA) (.ref da) ce) (compPost (model X.prog X.w) X.A X.xe use Qf (.ref da) sc.heap.objs.size) sd := by
    refine compLoop_anyD (fun n t => ∃ i H', Inv (X.blk sc Hc scope ce ch) [] (wipe σ (own.map (·.2))) H' t ∧ tn i t.heap ∧ (∀ b ∈ ch, H' b = none) ∧ W i n H') (fun n t ⟨i, Ht, It, stt, nt, wt⟩ => ?_) m0 ⟨0, Hc, Id, std, fun b hb => (fpc b hb).1.1, w0⟩
    rcases turn i n Ht wt with ⟨stop, fin⟩ | ⟨go, Nx, less, step⟩
    · refine thnF (Tn.done (X.blk sc Hc scope ce ch) rfl rfl rfl hc i [] t _ Ht (fun _ _ => False) It (still It nt) stt stop) fun r t1 ⟨hr, I1⟩ => ?_
      subst hr
      have I2 : Inv X pins σ Ht t1 := Ic.call' (ch := ch) I1.os I1.base I1.hok I1.bare fun b hb => by
        obtain ⟨_, f1, _, f3, f4, f5⟩ := (fpc b hb).1
        exact ⟨f3, f1, f4, f5⟩
      have nC : Ht sc.heap.objs.size = none := by
        have z : Ht ce.locals = none := I1.free
        rwa [locC] at z
      obtain ⟨mm, hm, _⟩ := I1.loc
      have hm : t1.heap.Ns ce.locals mm := hm
      rw [locC] at hm
      exact hRR da _ t1 mm Ht I2 fin hm (Ic.fpOk (Nat.le_refl _) nC)
    · refine thnF (Tn.item (X.blk sc Hc scope ce ch) rfl rfl rfl hc i [] t _ Ht (fun _ _ => False) It (still It nt) stt go) fun r t1 ⟨u, hr, hu1⟩ => ?_
      subst hr
      refine thnF hu1 fun _ t2 ⟨x, H2, I2, rx, y2, st2, n2⟩ => ?_
      refine thnF (Pg.run _ t2 _ H2 x u _ (I2.pinned (still I2 n2) (Tn.obj _ _ st2)) rx (step x H2 y2)) fun _ t3 ⟨σ3, H3, I3, hw, q3⟩ => ?_
      refine thnF (Pt.run _ t3 σ3 H3 _ I3 q3) fun c t4 ⟨H4, I4, q4⟩ => ?_
      have close : ∀ {t' : Shared} {H' : Hp}, Inv (X.blk sc Hc scope ce ch) ([] ++ pinsAt ch t2.heap) σ3 H' t' → Nx H' → ∃ m, m < n ∧ ∃ i H', Inv (X.blk sc Hc scope ce ch) [] (wipe σ (own.map (·.2))) H' t' ∧ tn i t'.heap ∧ (∀ b ∈ ch, H' b = none) ∧ W i m H' := by
        intro t' H' I' nx
        obtain ⟨m', hm, w'⟩ := less H' nx
        have held : ∀ b ∈ ch, ∀ o, t2.heap.get? b = some o → t'.heap.get? b = some o ∧ H' b = none := by
          intro b hb o e
          have z := I'.pin (b, o) (List.mem_append_right _ (List.mem_append_right _ (mem_pinsAt hb e)))
          exact ⟨z.1, z.2.1⟩
        refine ⟨m', hm, i + 1, H', (I'.unpinned (pins := [])).weak (by rw [← hw, wipe_length]) (fun j v e => ?_), Tn.keep _ _ _ st2 fun b hb o e => (held b hb o e).1, fun b hb => ?_, w'⟩
        · rw [← hw] at e
          exact (wipe_some e).1
        · obtain ⟨o, e, _⟩ := Tn.obj _ _ st2 b hb
          exact (held b hb o e).2
      cases c with
      | false =>
        simp only [Bool.false_eq_true, if_false] at q4 ⊢
        exact close I4 q4
      | true =>
        simp only [if_true] at q4 ⊢
        refine thnF (Pk.run _ t4 σ3 H4 _ I4 q4) fun z t5 ⟨yk, H5, I5, r5, q5⟩ => ?_
        refine thnF (Pv.run _ t5 σ3 H5 _ I5 q5) fun z2 t6 ⟨yv, H6, I6, r6, k, b, kvs, es, ek, h6, rkv, hz, rk, hk, hd, nx⟩ => ?_
        subst ek
        obtain rfl : z = Value.ref b := r5
        exact dict_set (X := X.blk sc Hc scope ce ch) hu I6 h6 rkv hz rk hk hd r6 fun t7 I7 => close I7 nx
  exact codeAny_compStart_dict walk (Tn.self X.A 0 _ _ _ std walk)
theorem pe_dcN {kx vx tg iter : Expr} {ifs : List Expr} {scope : Scope} {own : List (Str × Nat)} {pos : Pos} {wi : TI} {g : TG} {tt : TT} {tk tv : TE} (hu : X.A.units + 8 < cLine) (hc : X.calm = true) (hN : X.N.Nodup) (hi : PI X tg iter wi) (ok : BlkOk X.N X.env.scope scope own)
    (pg : ∀ (s : Shared) (H : Hp) (C : Addr) (cl : List (Str × Addr)) (fp : List Addr), PG (X.blk s H scope (compEnvC scope cl C X.env) fp) tg g)
    (pt : ∀ (s : Shared) (H : Hp) (C : Addr) (cl : List (Str × Addr)) (fp : List Addr), PTs (X.blk s H scope (compEnvC scope cl C X.env) fp) ifs tt)
    (pk : ∀ (s : Shared) (H : Hp) (C : Addr) (cl : List (Str × Addr)) (fp : List Addr), PE (X.blk s H scope (compEnvC scope cl C X.env) fp) kx tk)
    (pv : ∀ (s : Shared) (H : Hp) (C : Addr) (cl : List (Str × Addr)) (fp : List Addr), PE (X.blk s H scope (compEnvC scope cl C X.env) fp) vx tv) (hs : ∀ x, foldedSetIterable iter X.env x = pure x := by intro _; rfl) :
    PE X (.DictComp kx vx [⟨tg, iter, ifs, 0⟩] scope pos) (tDcN X.K X.w wi g tt tk tv (own.map (·.2))) := by
  refine ⟨fun pins s σ H Q I q0 => ?_⟩
  rw [arm_eval_DictComp]
  refine dc_core (Qf := EP X pins σ Q) hu hc hN hi ok pg pt pk pv hs I q0 fun D C s' m H' I' q hn f => ?_
  obtain ⟨f0, f1, f2, f3, f4, f5⟩ := f
  exact ⟨m, hn, fun h'' sb' => ⟨.ref D, H', I'.turned (t' := s'.toks) (fun b o hb e => (sb'.2 b hb).trans e) f0 f1 f3 f4 f5, rfl, q⟩⟩
theorem ps_setDc {i : Nat} {y : Str} {py spos : Pos} {kx vx tg iter : Expr} {ifs : List Expr} {scope : Scope} {own : List (Str × Nat)} {pos : Pos} {wi : TI} {g : TG} {tt : TT} {tk tv : TE} (hu : X.A.units + 8 < cLine) (hc : X.calm = true) (hN : X.N.Nodup) (hy : X.N[i]? = some y) (hyl : X.env.scope.names.lookup y = some .local)
    (hsw : swapsWith (.DictComp kx vx [⟨tg, iter, ifs, 0⟩] scope pos) (some (.Name y py)) spos.line X.env = pure true) (hi : PI X tg iter wi) (ok : BlkOk X.N X.env.scope scope own)
    (pg : ∀ (s : Shared) (H : Hp) (C : Addr) (cl : List (Str × Addr)) (fp : List Addr), PG (X.blk s H scope (compEnvC scope cl C X.env) fp) tg g)
    (pt : ∀ (s : Shared) (H : Hp) (C : Addr) (cl : List (Str × Addr)) (fp : List Addr), PTs (X.blk s H scope (compEnvC scope cl C X.env) fp) ifs tt)
    (pk : ∀ (s : Shared) (H : Hp) (C : Addr) (cl : List (Str × Addr)) (fp : List Addr), PE (X.blk s H scope (compEnvC scope cl C X.env) fp) kx tk)
    (pv : ∀ (s : Shared) (H : Hp) (C : Addr) (cl : List (Str × Addr)) (fp : List Addr), PE (X.blk s H scope (compEnvC scope cl C X.env) fp) vx tv) (hs : ∀ x, foldedSetIterable iter X.env x = pure x := by intro _; rfl) :
    PS X (.Assign [.Name y py] (.DictComp kx vx [⟨tg, iter, ifs, 0⟩] scope pos) spos) (tAsg (tDcN X.K X.w wi g tt tk tv (own.map (·.2))) (gName i)) := by
  refine ⟨fun pins s σ H D I h => ?_⟩
  rw [exec_Assign_Name_used _ _ _ _ hsw]
  refine wpAny_bind (wpAny_standAt (wpAny_bind ?_))
  show wpAny _ X.A (do let _ ← comprehension (.DictComp kx vx [⟨tg, iter, ifs, 0⟩] scope pos) scope X.env (firstIterPos [⟨tg, iter, ifs, 0⟩] pos) newDict false (eval iter X.env) (some (assign (.Name y py) X.env))) _ _ s
  have h : tDcN X.K X.w wi g tt tk tv (own.map (·.2)) σ H (fun x H1 => gName i x σ H1 D.nx) := h
  refine wpAny_bind (thn (dc_core (Qf := fun _ s' => SP X pins D .next s') hu hc hN hi ok pg pt pk pv hs I h fun L C s' m H' I' q hn f => ?_) fun _ s' hq => wpAny_pure (wpAny_pure hq))
  show wpAny _ _ (assign (.Name y py) X.env (.ref L)) _ _ _
  refine wpAny_assign_Name (store_ok2 (v := V.ref L) I' hN hy (.inl hyl) rfl (fun s2 I2 ⟨a, sb, ha⟩ => ?_) (.inr hyl))
  obtain ⟨f0, f1, f2, f3, f4, f5⟩ := f
  have haC : C ≠ a := by
    rcases ha with z | z
    · rw [z]; exact f1
    · exact fun e => f4 y a z e.symm
  refine ⟨m, hn.sameBut sb haC, fun h3 sb3 => ?_⟩
  exact ⟨_, H', I2.turned (t' := s2.toks) (fun b o hb e => (sb3.2 b hb).trans e) f0 f1 f3 f4 f5, q⟩
theorem sw_trueD {kx vx : Expr} {gs : List Comprehension} {scope : Scope} {pos py : Pos} {y : Str} {l : Nat} {env : Env} (hk : env.scope.kind = .function) (hy : env.scope.names.lookup y = some .local) (hl : (py.line == pos.line) = true)
    (ha : (scope.names.any fun (n, k) => n == y && (k == .local || k == .cell)) = false) : swapsWith (.DictComp kx vx gs scope pos) (some (.Name y py)) l env = pure true := by
  have ky : env.kindOf y = some .local := hy
  have hb : env.blockKind = .function := by unfold Env.blockKind; rw [hk]; rfl
  unfold swapsWith
  simp only [hb, ky, ha, Expr.pos, hl]
  rfl
end
/-! ### over deep values -/
def dDcGo (w : World) (src : Src) (g : DTG) (tt : DTT) (tk tv : DTE) (m0 : DSt) (p : Addr) (Qd : List (D × D) → DM → Prop) : List D → List (D × D) → DM → Prop
  | [], acc, M => SrcV src M ∧ Qd acc M
  | d :: ds, acc, M => SrcV src M ∧ g d m0 M fun m1 M1 => tt m1 M1 fun b M2 =>
      if b = true then tk m1 M2 fun k M3 => tv m1 M3 fun v M4 => M4 p = some (.dct w acc) ∧ isKey k ∧ dDcGo w src g tt tk tv m0 p Qd ds (dput acc k v) (mput M4 p (.dct w (dput acc k v)))
      else M2 p = some (.dct w acc) ∧ dDcGo w src g tt tk tv m0 p Qd ds acc M2
def dDc (w : World) (t : DTI) (g : DTG) (tt : DTT) (tk tv : DTE) (vs : List Nat) : DTE := fun m M Q => t m M fun src M1 => src.1.length ≤ sizeLine → ∀ p, M1 p = none → dDcGo w src g tt tk tv (dwipe m vs) p (fun _ M2 => Q (.ref p) M2) src.1 [] (mput M1 p (.dct w []))
theorem dput_len (kvs : List (D × D)) (k v : D) : (dput kvs k v).length ≤ kvs.length + 1 := by
  unfold dput
  split
  · rw [List.length_map]
    omega
  · rw [List.length_append, List.length_singleton]
    exact Nat.le_refl _
section
variable {X : Cx} {kx vx tg iter : Expr} {ifs : List Expr} {scope : Scope} {own : List (Str × Nat)} {pos : Pos} {t : DTI} {g : DTG} {tt : DTT} {tk tv : DTE} {ws : List Nat}
theorem dc_up {σ : SL} {H : Hp} {m : DSt} {M : DM} {Qv : VK} {Qf : Addr → DM → Prop} {w : World} (hw : X.w = w) (hsub : ∀ i ∈ ws, i ∈ own.map (·.2)) (r : R X.K m M σ H)
    (q : t m M fun src M1 => src.1.length ≤ sizeLine → ∀ p, M1 p = none → dDcGo w src g tt tk tv (dwipe m (own.map (·.2))) p (fun _ M2 => Qf p M2) src.1 [] (mput M1 p (.dct w [])))
    (k : ∀ p M2 H2, Grow H H2 → RM X.K H2 M2 → Qf p M2 → Qv (.ref p) H2) : tDcN X.K X.w (upI X.K t) (upG X.K ws g) (upT X.K tt) (upE X.K tk) (upE X.K tv) (own.map (·.2)) σ H Qv := by
  subst hw
  refine ⟨m, M, _, r, q, fun src M1 H1 J g1 m1 q1 st p np => ?_⟩
  have q2 := q1 st.small p (m1.free np)
  have g2 : Grow H1 (upd H1 p (DictO X.w p [])) := .new np
  refine ⟨fun i n H2 => i + n = src.1.length ∧ Grow H1 H2 ∧ ∃ acc M2, acc.length ≤ i ∧ M2 p = some (.dct X.w acc) ∧ RM X.K H2 M2 ∧ dDcGo X.w src g tt tk tv (dwipe m (own.map (·.2))) p (fun _ M2 => Qf p M2) (src.1.drop i) acc M2,
    ⟨src.1.length, by omega, g2, [], _, Nat.le_refl _, mput_same, m1.newDct np, q2⟩, ?_⟩
  rintro i n H2 ⟨hl, g3, acc, M2, ha, hp, m2, q3⟩
  have r2 : R X.K (dwipe m (own.map (·.2))) M2 (wipe σ (own.map (·.2))) H2 := (r.wipe _).grow (g1.trans g3) m2
  by_cases hlt : i < src.1.length
  · rw [List.drop_eq_getElem_cons hlt] at q3
    obtain ⟨sv, q3⟩ := q3
    have so := sv.ok g3 m2
    refine .inr ⟨st.go i H2 so hlt, fun H3 => Grow H1 H3 ∧ ∃ acc M2, acc.length ≤ i + 1 ∧ M2 p = some (.dct X.w acc) ∧ RM X.K H3 M2 ∧ dDcGo X.w src g tt tk tv (dwipe m (own.map (·.2))) p (fun _ M2 => Qf p M2) (src.1.drop (i + 1)) acc M2,
      fun H3 ⟨g4, z⟩ => ⟨n - 1, by omega, by omega, g4, z⟩, fun x H3 y => ?_⟩
    obtain ⟨g4, k4, d, e4, rd⟩ := st.yld i H2 x H3 so hlt y
    have ed : d = src.1[i] := by
      rw [List.getElem?_eq_getElem hlt] at e4
      exact (Option.some.inj e4).symm
    subst ed
    refine ⟨_, _, M2, _, rd, r2.grow g4 (k4 _ m2), q3, fun m5 M5 σ5 H5 g5 r5 o5 q5 => ⟨wipe_off o5 hsub, ?_⟩⟩
    refine ⟨m5, M5, _, r5, q5, fun b M6 H6 g6 m6 q6 => ?_⟩
    have g06 : Grow H1 H6 := ((g3.trans g4).trans g5).trans g6
    cases b with
    | true =>
      refine ⟨m5, M6, _, r5.grow g6 m6, q6, fun kd kv M7 H7 g7 rk m7 q7 => ?_⟩
      refine ⟨m5, M7, _, (r5.grow g6 m6).grow g7 m7, q7, fun vd vv M8 H8 g8 rv m8 ⟨e8, ⟨⟨ks, ek⟩, hok, hdp⟩, q8⟩ => ?_⟩
      subst ek
      obtain ⟨es, h8, hz8, rkv⟩ := m8.dct e8
      cases rk with
      | @tup _ b vs hf z l =>
        have rk8 : Rep X.K H8 (.tup ks) (.ref b) := Rep.grow (.tup hf z l) g8
        have hlen : es.length < sizeLine := by
          rw [← rkv.len]
          exact Nat.lt_of_le_of_lt ha (Nat.lt_of_lt_of_le hlt st.small)
        have hz9 : (storeV es (nk (.tup ks)) b vv).length ≤ sizeLine := Nat.le_trans (storeV_len ..) hlen
        have ge : Grow H8 (upd H8 p (DictO X.w p (storeV es (nk (.tup ks)) b vv))) := Grow.dct h8
        refine ⟨.tup ks, b, acc, es, rfl, h8, rkv, hz8, rk8, hok, hdp, ((g06.trans g7).trans g8).trans ge, dput acc (.tup ks) vd, _, Nat.le_trans (dput_len ..) (Nat.succ_le_succ ha), mput_same, m8.putDct h8 hz9 (rkv.store rk8 hok hdp rv), q8⟩
    | false =>
      have q6' : M6 p = some (.dct X.w acc) ∧ dDcGo X.w src g tt tk tv (dwipe m (own.map (·.2))) p (fun _ M2 => Qf p M2) (src.1.drop (i + 1)) acc M6 := q6
      exact ⟨g06, acc, M6, by omega, q6'.1, m6, q6'.2⟩
  · have e : i = src.1.length := by omega
    subst e
    rw [List.drop_length] at q3
    exact .inl ⟨st.stop H2 (q3.1.ok g3 m2), k _ M2 H2 (g1.trans g3) m2 q3.2⟩
theorem d_dc {w : World} (hw : X.w = w) (hu : X.A.units + 8 < cLine) (hc : X.calm = true) (hN : X.N.Nodup) (hi : DI X tg iter t) (ok : BlkOk X.N X.env.scope scope own) (hsub : ∀ i ∈ ws, i ∈ own.map (·.2))
    (hg : ∀ (s : Shared) (H : Hp) (C : Addr) (cl : List (Str × Addr)) (fp : List Addr), DG (X.blk s H scope (compEnvC scope cl C X.env) fp) ws tg g)
    (ht : ∀ (s : Shared) (H : Hp) (C : Addr) (cl : List (Str × Addr)) (fp : List Addr), DPTs (X.blk s H scope (compEnvC scope cl C X.env) fp) ifs tt)
    (hk : ∀ (s : Shared) (H : Hp) (C : Addr) (cl : List (Str × Addr)) (fp : List Addr), DE (X.blk s H scope (compEnvC scope cl C X.env) fp) kx tk)
    (hv : ∀ (s : Shared) (H : Hp) (C : Addr) (cl : List (Str × Addr)) (fp : List Addr), DE (X.blk s H scope (compEnvC scope cl C X.env) fp) vx tv)
    (hs : ∀ x, foldedSetIterable iter X.env x = pure x := by intro _; rfl) : DE X (.DictComp kx vx [⟨tg, iter, ifs, 0⟩] scope pos) (dDc w t g tt tk tv (own.map (·.2))) := by
  subst hw
  exact imE (pe_dcN (wi := upI X.K t) (g := upG X.K ws g) (tt := upT X.K tt) (tk := upE X.K tk) (tv := upE X.K tv) hu hc hN hi ok hg ht hk hv hs) fun σ H Q ⟨m, M, Q', r, q, k⟩ =>
    dc_up rfl hsub r q fun p M2 H2 g2 m2 q2 => k _ _ M2 H2 g2 (.ref p) m2 q2
/-- name = {.. for ..} on one line -/
theorem ds_setDc {w : World} {y : Str} {py spos : Pos} {i : Nat} (hw : X.w = w) (hu : X.A.units + 8 < cLine) (hc : X.calm = true) (hN : X.N.Nodup) (hy : X.N[i]? = some y) (hyl : X.env.scope.names.lookup y = some .local)
    (hsw : swapsWith (.DictComp kx vx [⟨tg, iter, ifs, 0⟩] scope pos) (some (.Name y py)) spos.line X.env = pure true) (hi : DI X tg iter t) (ok : BlkOk X.N X.env.scope scope own) (hsub : ∀ i ∈ ws, i ∈ own.map (·.2))
    (hg : ∀ (s : Shared) (H : Hp) (C : Addr) (cl : List (Str × Addr)) (fp : List Addr), DG (X.blk s H scope (compEnvC scope cl C X.env) fp) ws tg g)
    (ht : ∀ (s : Shared) (H : Hp) (C : Addr) (cl : List (Str × Addr)) (fp : List Addr), DPTs (X.blk s H scope (compEnvC scope cl C X.env) fp) ifs tt)
    (hk : ∀ (s : Shared) (H : Hp) (C : Addr) (cl : List (Str × Addr)) (fp : List Addr), DE (X.blk s H scope (compEnvC scope cl C X.env) fp) kx tk)
    (hv : ∀ (s : Shared) (H : Hp) (C : Addr) (cl : List (Str × Addr)) (fp : List Addr), DE (X.blk s H scope (compEnvC scope cl C X.env) fp) vx tv)
    (hs : ∀ x, foldedSetIterable iter X.env x = pure x := by intro _; rfl) : DS X (.Assign [.Name y py] (.DictComp kx vx [⟨tg, iter, ifs, 0⟩] scope pos) spos) (dSet i (dDc w t g tt tk tv (own.map (·.2)))) := by
  subst hw
  exact imS (ps_setDc (wi := upI X.K t) (g := upG X.K ws g) (tt := upT X.K tt) (tk := upE X.K tk) (tv := upE X.K tv) hu hc hN hy hyl hsw hi ok hg ht hk hv hs) fun Z σ H ⟨m, M, Z', r, q, k⟩ =>
    dc_up (Qf := fun p M2 => Z'.nx (m.set i (some (.ref p))) M2) rfl hsub r q fun p M2 H2 g2 m2 q2 => k.nx _ M2 _ H2 g2 ((r.grow g2 m2).set (.ref p)) q2
end
theorem hu_8 {k : Nat} {A : Around} (hr : Room k A) : A.units + 8 < cLine := by
  have := hu_40 hr
  omega
theorem hu_9 {k : Nat} {A : Around} (hr : Room k A) : A.units + 9 < cLine := by
  have := hu_40 hr
  omega
/-- a comprehension over what is left, with what is gathered -/
theorem dc_ind {w : World} {src : Src} {g : DTG} {tt : DTT} {tk tv : DTE} {m0 : DSt} {p : Addr} {Qd : List (D × D) → DM → Prop} (V : List D → List (D × D) → DM → Prop) (fin : ∀ acc M, V [] acc M → SrcV src M ∧ Qd acc M)
    (step : ∀ d ds acc M (Cn : List (D × D) → DM → Prop), (∀ acc' M', V ds acc' M' → Cn acc' M') → V (d :: ds) acc M → SrcV src M ∧ g d m0 M fun m1 M1 => tt m1 M1 fun b M2 =>
      if b = true then tk m1 M2 fun k M3 => tv m1 M3 fun v M4 => M4 p = some (.dct w acc) ∧ isKey k ∧ Cn (dput acc k v) (mput M4 p (.dct w (dput acc k v))) else M2 p = some (.dct w acc) ∧ Cn acc M2) :
    ∀ ds acc M, V ds acc M → dDcGo w src g tt tk tv m0 p Qd ds acc M
  | [], acc, M, h => fin acc M h
  | d :: ds, acc, M, h => step d ds acc M (dDcGo w src g tt tk tv m0 p Qd ds) (dc_ind V fin step ds) h
theorem dput_new {kvs : List (D × D)} {k v : D} (h : dhas kvs k = false) : dput kvs k v = kvs ++ [(k, v)] := by
  unfold dput
  rw [h]
  rfl
end DL
/-! < and > of data -/
namespace DL
open PySem PySem.Spec PyProof.Rows L2
section
variable {X : Cx}
theorem py_none {d : D} (h : d ≠ .non) (k : dOk 64 d = true) : d.py ≠ .none := by
  cases d <;> simp_all [D.py, dOk]
/-- x < y, of data that are alike -/
def dLtD : DR2 := fun x y M Q => (dOk 64 x = true ∧ dOk 64 y = true) ∧ x ≠ .non ∧ PySem.W.alike x.py y.py = true ∧ Q (.bl (PySem.W.dataLt x.py y.py)) M
def dGtD : DR2 := fun x y M Q => (dOk 64 x = true ∧ dOk 64 y = true) ∧ x ≠ .non ∧ PySem.W.alike x.py y.py = true ∧ Q (.bl (PySem.W.dataLt y.py x.py)) M
theorem o_ltD (hu : X.A.units + 64 < cLine) : DOp X (compareOp .Lt) dLtD := by
  intro pins s σ H x y v u Q I rx ry ⟨d, e, M, Q', r1, r2, m, ⟨⟨h1, h2⟩, hn, ha, q⟩, k⟩
  obtain ⟨as, q1⟩ := Dp.reads I _ x v (r1.dp h1) rx
  obtain ⟨bs, q2⟩ := Dp.reads I _ y u (r2.dp h2) ry
  have hd := (dOk_lay 64 d h1).2
  exact PySem.W.lt_data q1 q2 ha (py_none hn h1) (Nat.lt_of_le_of_lt (Nat.add_le_add_left (Nat.le_trans (Nat.min_le_left _ _) hd) _) hu) ⟨.bl _, H, I, rfl, k _ _ M H (.refl H) (.bl _) m q⟩
theorem o_gtD (hu : X.A.units + 64 < cLine) : DOp X (compareOp .Gt) dGtD := by
  intro pins s σ H x y v u Q I rx ry ⟨d, e, M, Q', r1, r2, m, ⟨⟨h1, h2⟩, hn, ha, q⟩, k⟩
  obtain ⟨as, q1⟩ := Dp.reads I _ x v (r1.dp h1) rx
  obtain ⟨bs, q2⟩ := Dp.reads I _ y u (r2.dp h2) ry
  have hd := (dOk_lay 64 d h1).2
  exact PySem.W.gt_data q1 q2 ha (py_none hn h1) (Nat.lt_of_le_of_lt (Nat.add_le_add_left (Nat.le_trans (Nat.min_le_left _ _) hd) _) hu) ⟨.bl _, H, I, rfl, k _ _ M H (.refl H) (.bl _) m q⟩
end
end DL
/-! list(a dict), a text's upper() -/
namespace DL
open PySem PySem.Spec PyProof.Rows L2
theorem RepKV.keys {K : PySem.W.Frag} {H : Hp} : ∀ {kvs : List (D × D)} {es : List (NestedKey × Addr × V)}, RepKV K H kvs es → RepL K H (kvs.map (·.1)) (es.map fun x => V.ref x.2.1)
  | _, _, .nil => .nil
  | _, _, .cons a _ _ _ e => .cons a (RepKV.keys e)
theorem refs_at : ∀ {us : List Value} {es : List (NestedKey × Addr × V)}, us.length = es.length → (∀ (j : Nat) (v : Value), us[j]? = some v → ∃ x, es[j]? = some x ∧ v = .ref x.2.1) → Vals (es.map fun x => V.ref x.2.1) us
  | [], [], _, _ => .nil
  | [], _ :: _, hl, _ => by simp at hl
  | _ :: _, [], hl, _ => by simp at hl
  | u :: us, q :: es, hl, h => by
    obtain ⟨x, e1, e2⟩ := h 0 u rfl
    have e1' : q = x := Option.some.inj e1
    subst e1'
    rw [List.map_cons]
    refine .cons e2 (refs_at (by simpa using hl) fun j v e => ?_)
    exact h (j + 1) v (by rw [List.getElem?_cons_succ]; exact e)
theorem esxs_at : ∀ {es : List (NestedKey × Addr × V)} {xs : List (NestedKey × Addr × Value)} {j : Nat} {x : NestedKey × Addr × Value}, EsXs es xs → xs[j]? = some x → ∃ y, es[j]? = some y ∧ y.2.1 = x.2.1
  | _, _, j, _, .nil, e => by simp at e
  | _, _, 0, _, .cons r _, e => by
    simp at e
    subst e
    exact ⟨_, rfl, r.2.1⟩
  | _, _, j + 1, x, .cons _ r, e => esxs_at (j := j) r (by simpa using e)
theorem esxs_len : ∀ {es : List (NestedKey × Addr × V)} {xs : List (NestedKey × Addr × Value)}, EsXs es xs → es.length = xs.length
  | _, _, .nil => rfl
  | _, _, .cons _ r => congrArg (· + 1) (esxs_len r)
section
variable {X : Cx}
def rListK (w : World) : DCR := fun ds M Q => ∃ a kvs, ds = [.ref a] ∧ M a = some (.dct w kvs) ∧ ∀ p, M p = none → Q (.ref p) (mput M p (.lst (kvs.map (·.1))))
theorem c_listK {w : World} (hw : X.w = w) (hcalm : X.calm = true) : DCall X (.type "list") (rListK w) := by
  subst hw
  intro pins s σ H vs us Q I r ⟨ds, M, Q', l, m, ⟨a, kvs, e, h, q⟩, k⟩
  subst e
  obtain ⟨v, e, rv⟩ := repL_one l
  subst e
  cases rv
  obtain ⟨u, eu, rx⟩ := vals1 r
  subst eu
  obtain rfl : u = Value.ref a := rx
  obtain ⟨es, h1, hz, rkv⟩ := m.dct h
  obtain ⟨⟨xs, pr, ⟨o, ents, ep, k1, k2, k3, k4⟩, nd, lo⟩, _, _⟩ := I.hok a _ h1
  have hxl := esxs_len pr
  have hel : ents.size = xs.length := by
    have := congrArg List.length k4
    rwa [Array.length_toList, List.length_map] at this
  refine PySem.W.kdl_call (KdlSrc.rawDict (es := ents) (ep := ep) lo) (I.ok.hd hcalm) ⟨o, k1, k2, k3⟩ (by rw [hel, ← hxl]; exact hz) fun h' tk acc c' hk hD hacc => ?_
  have hv : Vals (es.map fun x => V.ref x.2.1) acc.toList := by
    refine refs_at (by rw [Array.length_toList, hacc.1, hel, hxl]) fun j v e => ?_
    obtain ⟨hi, hv⟩ := hacc.2 j v (by rw [← Array.getElem?_toList]; exact e)
    have hj : ents.toList[j]? = some ents[j] := by rw [Array.getElem?_toList, Array.getElem?_eq_getElem hi]
    rw [k4, List.getElem?_map] at hj
    cases hx : xs[j]? with
    | none => rw [hx] at hj; cases hj
    | some x =>
      rw [hx] at hj
      obtain ⟨y, e1, e2⟩ := esxs_at pr hx
      have hj' := Option.some.inj hj
      exact ⟨y, e1, by rw [hv, ← hj', e2]⟩
  have hp := I.hok.fresh (Nat.le_refl s.heap.objs.size)
  exact ⟨.ref s.heap.objs.size, upd H s.heap.objs.size (.lst (es.map fun x => V.ref x.2.1)), I.laid (t' := tk) hk (Nat.le_refl _) ⟨by rw [List.length_map]; exact hz, acc.toList, c', hv, by rw [Array.toArray_toList]; exact hD⟩, rfl,
    k _ _ _ _ (.new hp) (.ref _) (m.newLst hp (by rw [List.length_map]; exact hz) rkv.keys) (q _ (m.free hp))⟩
variable {o : Expr} {apos cpos : Pos} {to : DTE}
def dUpper (to : DTE) : DTE := fun m M Q => to m M fun d M1 => ∃ z, d = .str z ∧ z.length ≤ 5592405 ∧ Q (.str (Txt.upper z)) M1
theorem d_upper (ho : DE X o to) (hbase : attributeBase o "upper" X.env (eval o X.env) = eval o X.env := by rfl) (hline : (apos.endLine == cpos.line) = true := by rfl) : DE X (.Call (.Attribute o "upper" apos) [] [] cpos) (dUpper to) := by
  refine ⟨fun pins s σ H Q I ⟨m0, M, Q', r, q, kk⟩ => ?_⟩
  refine J1.ev_upper hbase hline (thn (ho.run pins s σ H (fun x H1 => ∃ z, x = .str z ∧ z.length ≤ 5592405 ∧ Q (.str (Txt.upper z)) H1) I
    ⟨m0, M, _, r, q, fun d v M1 H1 g1 r1 m1 ⟨z, e1, hz, q1⟩ => by subst e1; cases r1; exact ⟨z, rfl, hz, kk _ _ M1 H1 g1 (.str _) m1 q1⟩⟩) fun u s1 ⟨x, H1, I1, rx, z, ex, hz, q1⟩ => ?_)
  subst ex
  obtain ⟨t, rfl⟩ := rx
  exact ⟨z, t, rfl, hz, fun t' k => ⟨.str (Txt.upper z), H1, I1.tok _, ⟨t', rfl⟩, q1⟩⟩
end
end DL
/-! the signs of a text: for, in -/
namespace DL
open PySem PySem.Spec PyProof.Rows L2
/-- the signs, each a text -/
def sgsD (z : Str) : List D := z.cps.toList.map fun c => D.str ⟨#[c]⟩
theorem stream_str {K : PySem.W.Frag} {H0 : Hp} {z : Str} (hz : z.length ≤ 16777216) : Stream K (Its z) (sgsD z, none) H0 := by
  have hl : (sgsD z).length = z.cps.size := by simp [sgsD]
  refine ⟨by rw [show (sgsD z, (none : Option Addr)).1 = sgsD z from rfl, hl, sizeLine_eq]; exact hz, fun i H ok hi => ?_, fun i H x H' ok hi y => ?_, fun H ok => ?_⟩
  · exact (by rw [← hl]; exact hi : i < z.cps.size)
  · obtain ⟨e1, c, e2, e3⟩ := y
    subst e1
    subst e3
    refine ⟨.refl _, fun _ q => q, .str ⟨#[c]⟩, ?_, .str _⟩
    show (sgsD z)[i]? = _
    unfold sgsD
    rw [List.getElem?_map, Array.getElem?_toList, e2]
    rfl
  · show z.cps.size ≤ (sgsD z).length
    omega
section
variable {X : Cx} {tg l : Expr} {te : DTE}
def diStr (te : DTE) : DTI := fun m M Q => te m M fun d M1 => ∃ z, d = .str z ∧ z.length ≤ 16777216 ∧ Q (sgsD z, none) M1
theorem di_str (h : DE X l te) : DI X tg l (diStr te) :=
  imI (pi_str h) fun σ H Q ⟨m, M, Q', r, q, k⟩ => by
    refine ⟨m, M, _, r, q, fun d v M1 H1 g1 r1 m1 ⟨z, e, hz, q1⟩ => ?_⟩
    subst e
    cases r1
    exact ⟨z, rfl, k _ M1 H1 _ g1 m1 q1 (stream_str hz)⟩
/-- one sign among those of a text -/
def dInS : DR2 := fun x y M Q => ∃ (c : Nat) (z : Str), x = .str ⟨#[c]⟩ ∧ y = .str z ∧ Q (.bl (decide (c ∈ z.cps.toList))) M
theorem o_inS : DOp X (compareOp .In) dInS := by
  intro pins s σ H x y v u Q I rx ry ⟨d, e, M, Q', r1, r2, m, ⟨c, z, h1, h2, q⟩, k⟩
  subst h1 h2
  cases r1
  cases r2
  exact op_in_sign pins s σ H _ _ v u Q I rx ry ⟨c, z, rfl, rfl, k _ _ M H (.refl H) (.bl _) m q⟩
end
end DL
/-! sorted(xs, key=lambda x: ..) -/
namespace DL
open PySem PySem.Spec PyProof.Rows L2
open PySem.W (EachIs AllAlike Sortable dataLe alike alikeAll)
abbrev lamQ (x : Str) : Str := x ++ ".<locals>." ++ "<lambda>"
section
variable {X : Cx} {pins : List (Addr × Obj)} {σ : SL} {H : Hp} {s : Shared}
/-- a lambda is made: its code object is new, or found in the table -/
theorem lam_make {c P : Addr} {params : Arguments} {body : Expr} {scope : Scope} {pos : Pos} {E : Value → Shared → Prop} {Q : Value → Shared → Prop} (I : Inv X pins σ H s) (TB : LamX.TabB X.base X.mg c P) (hcode : X.env.code = .ref c)
    (hT : LamX.TabS H P (X.env.qual ++ "<lambda>")) (hdef : defaultsOf params X.env = ([], [])) (hfree : ∀ y ∈ scope.names, y.2 = .free → ∃ c, X.env.cells.lookup y.1 = some c)
    (h : ∀ (f c' : Addr) (pm ctv : Value) (H1 : Hp) (s' : Shared), Inv X pins σ H1 s' → (∀ b o, b ≠ P → H b = some o → H1 b = some o) → LamX.TabS H1 P (X.env.qual ++ "<lambda>") →
      s'.heap.get? f = some (PySem.W.kla_obj "<lambda>" (X.env.qual ++ "<lambda>") params body scope (cloFrom X.env.cells scope.names []) pm c' ctv) → H1 f = none → f ∉ frs X.stack → H1 c' = some (LamX.CodeO c' (X.env.qual ++ "<lambda>")) → Q (.ref f) s') :
    wpAny (model X.prog X.w) X.A (eval (.Lambda params body scope pos) X.env) Q E s := by
  obtain ⟨ps, hP, ht, ha⟩ := hT
  refine PySem.W.kla_eval hdef ?_
  have bP : s.heap.BuiltinsAt X.mg P := TB.bm.keeps I.bk
  have hP' : s.heap.get? P = some { cls := .none, data := .fields ps } := I.hok P _ hP
  have nofr : ∀ f, s.heap.objs.size ≤ f → f ∉ frs X.stack := fun f hf z => by
    rcases List.mem_cons.mp (I.stkSub _ z) with e | e
    · have h1 := I.lt
      rw [← e] at h1
      exact Nat.lt_irrefl _ (Nat.lt_of_lt_of_le h1 hf)
    · exact I.nofs hf e
  cases hc : codeAmong pos ps.toList with
  | none =>
    refine PySem.W.kla_makeFunction (mg := X.mg) (c := c) (P := P) (ps := ps) (closure_ok hfree) I.ok.glob (I.mod.glob.keeps I.bk) hcode (TB.code.keeps I.bk) hP' ht hc TB.gP bP fun c' ctv h' tk hx hge hlt hrec htb => ?_
    obtain ⟨c2, oc, vs, t, e2, hoc, hd, hv⟩ := hrec
    cases e2
    have hsz : s.heap.objs.size ≤ h'.objs.size := Nat.le_trans hge (Nat.le_of_lt hlt)
    have nC : H c' = none := I.hok.fresh hge
    have I1 := LamX.inv_table (t' := tk) (more := #[rawInt pos.line, rawInt pos.col, .ref c']) (h' := h'.push (PySem.W.kla_obj "<lambda>" (X.env.qual ++ "<lambda>") params body scope (cloFrom X.env.cells scope.names []) ((X.mg "__name__").getD .none) c' ctv)) I hP
      (fun b o hb e => Heap.get?_push_of_some _ (hx b o hb e)) (Heap.get?_push_of_some _ htb) hge ⟨oc, vs, t, Heap.get?_push_of_some _ hoc, hd, hv⟩
    have keep : ∀ b o, b ≠ P → H b = some o → upd (upd H P (.tbl (ps ++ #[rawInt pos.line, rawInt pos.col, .ref c']))) c' (LamX.CodeO c' (X.env.qual ++ "<lambda>")) b = some o := fun b o n e => by
      rw [upd_ne (ne_of_none e nC), upd_ne n]
      exact e
    have eL : (ps ++ #[rawInt pos.line, rawInt pos.col, .ref c']).toList = ps.toList ++ [rawInt pos.line, rawInt pos.col, .ref c'] := by simp
    refine h h'.objs.size c' ((X.mg "__name__").getD .none) ctv _ _ I1 keep ?_ (Heap.get?_push_size _ rfl) ?_ (nofr _ hsz) upd_same
    · refine ⟨_, by rw [upd_ne (ne_of_none hP nC), upd_same], by rw [eL]; exact PySem.TriplesOk_snoc _ _ _ _ ht, fun p' cv hcv => ?_⟩
      rw [eL] at hcv
      rcases LamX.among_app _ ht hcv with z | z
      · obtain ⟨c0, e1, e2⟩ := ha p' cv z
        exact ⟨c0, e1, keep _ _ (fun z => by rw [z, hP] at e2; exact LamX.codeO_ne _ (Option.some.inj e2).symm) e2⟩
      · exact ⟨c', z, upd_same⟩
    · have n1 : h'.objs.size ≠ c' := Nat.ne_of_gt hlt
      have n2 : h'.objs.size ≠ P := Nat.ne_of_gt (Nat.lt_of_lt_of_le (Heap.lt_size hP') hsz)
      rw [upd_ne n1, upd_ne n2]
      exact I.hok.fresh hsz
  | some cv =>
    obtain ⟨c', e, hco⟩ := ha pos cv hc
    subst e
    refine PySem.W.kla_makeFunctionHit (mg := X.mg) (c := c) (P := P) (ps := ps) (closure_ok hfree) I.ok.glob (I.mod.glob.keeps I.bk) hcode (TB.code.keeps I.bk) hP' ht hc bP fun ctv h' tk hx hsz => ?_
    have I1 : Inv X pins σ H { s with heap := h'.push (PySem.W.kla_obj "<lambda>" (X.env.qual ++ "<lambda>") params body scope (cloFrom X.env.cells scope.names []) ((X.mg "__name__").getD .none) c' ctv), toks := tk } := I.kept fun b o e => Heap.get?_push_of_some _ (hx b o e)
    exact h h'.objs.size c' ((X.mg "__name__").getD .none) ctv H _ I1 (fun b o _ e => e) ⟨ps, hP, ht, ha⟩ (Heap.get?_push_size _ rfl) (I.hok.fresh hsz) (nofr _ hsz) hco
/-- the lambda of one parameter as the key -/
theorem lam_run {H1 : Hp} {s1 : Shared} {M : DM} {k : Nat} {f c' : Addr} {q a : Str} {params : Arguments} {body : Expr} {scope : Scope} {pm ctv : Value} {te : DTE} {xs : List D} {g : D → D} (S : FnScope [a] [a] scope) (hr : Room (k + 1) X.A.in1.in1)
    (hf : s1.heap.get? f = some (PySem.W.kla_obj "<lambda>" q params body scope [] pm c' ctv)) (hfn : H1 f = none) (hfr : f ∉ frs X.stack) (hco : H1 c' = some (LamX.CodeO c' q))
    (hbind : ∀ (x : Value), bindArgs (PySem.W.kla_fn "<lambda>" q params body scope [] pm (.ref c') ctv) ⟨[x], []⟩ = pure [(a, x)])
    (hbody : ∀ (A : Around) (outer : List Env) (s : Shared) (H : Hp), Room k (A.deeper (envOfC q scope s.heap.objs.size f (.ref c'))) → DE (cxOf CX0 X.prog X.w X.K X.mg X.base [a] q scope f (.ref c') A outer s H E0).nox body te)
    (pure' : ∀ x ∈ xs, ∀ Q' : DVK, Q' (g x) M → te [some x] M Q') : KeyRun X pins σ H1 M s1 (.ref f) xs g := by
  intro Hj s' d v x hdm un gr J rm rd ru
  have of1 : s'.heap.get? f = some (PySem.W.kla_obj "<lambda>" q params body scope [] pm c' ctv) := un.keep f _ hf hfn hfr (by simp)
  obtain ⟨⟨oc, vs, t, hoc, hdc, hvc⟩, _, _⟩ := J.hok c' _ (gr.cods _ _ hco)
  have lim : s'.heap.NoLimit := J.nolimit
  have hkind : ∀ y ∈ [(a, x)], scope.names.lookup y.1 = some .local ∨ (scope.names.lookup y.1 = some .cell ∧ ((cellsFrom (s'.heap.objs.size + 1) scope.names []).lookup y.1).isSome = true) := fun y hy => by
    have e : y = (a, x) := by simpa using hy
    rw [e]
    rcases S.par a (by simp) with z | z
    · exact .inl z
    · exact .inr ⟨z, PySem.W.cellsFrom_some _ _ _ (.inl z)⟩
  have rc : codeAny (model X.prog X.w) X.A.in1.in1 (.call (.ref f) ⟨[x], []⟩) (CR CX0 X.stack X.prog X.w Hj s' (fun v H' => Grow Hj H' ∧ Rep X.K H' (g d) v ∧ RM X.K H' M) E0) s' := by
    refine PySem.W.kla_callFunE hr.depth of1 rfl S.co S.gen rfl ⟨c', oc, vs, t, rfl, hoc, hdc, hvc⟩ ?_
    rw [hbind]
    refine wpAny_pure (wpAny_newFunctionEnv_cells S.kind hkind fun env he s2 x2 => ?_)
    subst he
    refine ⟨lim.keeps x2.toInCall.keep, PySem.W.kla_codeExpr ?_⟩
    have Jn : Inv (cxOf CX0 X.prog X.w X.K X.mg X.base [a] q scope f (.ref c') X.A.in1.in1 X.stack s' Hj E0) [] (L2.start [a] [v]) Hj s2 := inv_start S hr.hd J.env0.in1.in1 rfl (.cons ru .nil) x2
    have hb := (hbody X.A.in1.in1 X.stack s' Hj (hr.deeper _)).nox
    refine wpAny_mono (hb.run [] s2 (L2.start [a] [v]) Hj (fun v H' => Grow Hj H' ∧ Rep X.K H' (g d) v ∧ RM X.K H' M) Jn ⟨dstart [a] [d], M, fun y M' => y = g d ∧ M' = M, ⟨by simp [dstart, L2.start], fun i d e => start_slot (.one rd) e, rm⟩, pure' d hdm _ ⟨rfl, rfl⟩, fun y v' M' H' g1 r1 m1 ⟨h1, h2⟩ => by subst h1 h2; exact ⟨g1, r1, m1⟩⟩) (fun v s'' hq => ?_) fun e s'' hq => hq
    obtain ⟨w', H', J', rv, q⟩ := hq
    exact ⟨w', H', J'.os, J'.bare, J'.base, J'.hok, rv, q⟩
  refine wpAny_call (codeAny_mono rc fun r s'' hq => ?_)
  cases r with
  | error e => exact False.elim hq
  | ok fl =>
    cases fl with
    | ret u => exact hq
    | next => exact False.elim hq
    | brk => exact False.elim hq
    | cont => exact False.elim hq
/-- sorted(e, key=lambda a: ..): the maker's table is at P -/
def dSortL (P : Addr) (q : Str) (te : DTE) (t : DTA) : DTE := fun m M Q => t m M fun ds M1 => ∃ d xs, ∃ g : D → D, ds = [d] ∧ dItems d M1 = some xs ∧ d ≠ .tup xs ∧ M1 P = some (.tab q) ∧ (∀ x ∈ xs, ∀ Q' : DVK, Q' (g x) M1 → te [some x] M1 Q') ∧ (xs.map g).all (dOk 32) = true ∧
  AllAlike ((xs.map g).map D.py) ∧ SortOk ((xs.map g).map D.py) ∧ ∀ p, M1 p = none → Q (.ref p) (mput M1 p (.lst (xs.mergeSort (dataLe false fun x => D.py (g x)))))
theorem rm_lam {K : PySem.W.Frag} {H1 : Hp} {M : DM} {P : Addr} {q : Str} (m : RM K H M) (h : M P = some (.tab q)) (keep : ∀ b o, b ≠ P → H b = some o → H1 b = some o) (T : LamX.TabS H1 P q) : Grow H H1 ∧ RM K H1 M := by
  obtain ⟨ps, hP, _⟩ := m P _ h
  have ne : ∀ {b : Addr} {o : HO}, H b = some o → (∀ ps, o ≠ .tbl ps) → b ≠ P := fun {b o} e n z => by
    rw [z, hP] at e
    exact n ps (Option.some.inj e).symm
  have gr : Grow H H1 := ⟨fun b xs e => keep b _ (ne e (fun _ z => by cases z)) e, fun b o u e => keep b _ (ne e (fun _ z => by cases z)) e, fun b q e => keep b _ (ne e LamX.codeO_ne) e⟩
  refine ⟨gr, fun a o e => ?_⟩
  by_cases ha : a = P
  · subst ha
    rw [h] at e
    cases e
    exact T
  · have z := m a o e
    obtain ⟨u, hu⟩ : ∃ u, H a = some u := by
      cases q : H a with
      | none => exact absurd q z.some
      | some u => exact ⟨u, rfl⟩
    exact z.stay ((keep a u ha hu).trans hu.symm) gr
theorem d_sortL {k : Nat} {a x : Str} {c P : Addr} {params : Arguments} {body : Expr} {scope : Scope} {te : DTE} {e : Expr} {p lpos kp pos : Pos} {t : DTA} (TB : LamX.TabB X.base X.mg c P) (hcode : X.env.code = .ref c) (hqual : X.env.qual = x ++ ".<locals>.") (S : FnScope [a] [a] scope) (hr : Room (k + 1) X.A.in1.in1)
    (hgs : Gl X "sorted") (hms : X.mg "sorted" = none) (ha : DA X [e] t)
    (hbody : ∀ (A : Around) (outer : List Env) (s : Shared) (H : Hp) (f : Addr) (cdv : Value), Room k (A.deeper (envOfC (lamQ x) scope s.heap.objs.size f cdv)) → DE (cxOf CX0 X.prog X.w X.K X.mg X.base [a] (lamQ x) scope f cdv A outer s H E0).nox body te)
    (hdef : defaultsOf params X.env = ([], []) := by rfl) (hclo : cloFrom X.env.cells scope.names [] = [] := by rfl)
    (hbind : ∀ (pm cv ctv y : Value), bindArgs (PySem.W.kla_fn "<lambda>" (lamQ x) params body scope [] pm cv ctv) ⟨[y], []⟩ = pure [(a, y)] := by intro _ _ _ _; rfl)
    (he : backTo pos (starEach [e] X.env) = [(false, eval e X.env)] := by rfl) (hpl : (backTo pos (starEach [e] X.env)).any (·.1) = false := by rfl)
    (hall : (backToKw pos (keywordEach [⟨some (Str.ofString "key"), .Lambda params body scope lpos, kp⟩] X.env)).all (·.1.isSome) = true := by rfl) (hnone : (backToKw pos (keywordEach [⟨some (Str.ofString "key"), .Lambda params body scope lpos, kp⟩] X.env)).any (·.1.isNone) = false := by rfl)
    (hks : (backToKw pos (keywordEach [⟨some (Str.ofString "key"), .Lambda params body scope lpos, kp⟩] X.env)).filterMap (·.1) = [Str.ofString "key"] := by rfl) :
    DE X (.Call (.Name "sorted" p) [e] [⟨some (Str.ofString "key"), .Lambda params body scope lpos, kp⟩] pos) (dSortL P (lamQ x) te t) := by
  refine ⟨fun pins s σ H Q I ⟨m, M, Q', r, h, kk⟩ => ?_⟩
  have hq : X.env.qual ++ "<lambda>" = lamQ x := by rw [hqual]
  refine wpAny_Call_Name_kw (ld_blt I hgs hms boot_sorted ?_ (by decide) (by decide))
  refine PyProof.Rows.callWith_kw (thn (ha.run pos pins s σ H (fun vs H1 => ∃ ds M1, Grow H H1 ∧ RepL X.K H1 ds vs ∧ RM X.K H1 M1 ∧ ∃ d xs, ∃ g : D → D, ds = [d] ∧ dItems d M1 = some xs ∧ d ≠ .tup xs ∧ M1 P = some (.tab (lamQ x)) ∧ (∀ x ∈ xs, ∀ Q' : DVK, Q' (g x) M1 → te [some x] M1 Q') ∧ (xs.map g).all (dOk 32) = true ∧
    AllAlike ((xs.map g).map D.py) ∧ SortOk ((xs.map g).map D.py) ∧ ∀ p, M1 p = none → Q' (.ref p) (mput M1 p (.lst (xs.mergeSort (dataLe false fun x => D.py (g x)))))) I ⟨m, M, _, r, h, fun ds vs M1 H1 g1 l1 m1 q1 => ⟨ds, M1, g1, l1, m1, q1⟩⟩) fun us s1 ⟨vs, H1, I1, r1, ds, M1, g1, l1, m1, d, xs, g, ed, hd, hnt, hM, pure', hok, hal, hsk, q⟩ => ?_) he hpl hall hnone
  subst ed
  obtain ⟨v, ev, rv⟩ := repL_one l1
  subst ev
  obtain ⟨u, eu, ru⟩ := vals1 r1
  subst eu
  have hT := m1 P _ hM
  show wpAny _ _ (evalAll ((do let v ← eval (.Lambda params body scope lpos) X.env; standAt pos; pure v) :: [])) _ _ s1
  refine wpAny_evalAll_cons (wpAny_bind (lam_make I1 TB hcode (by rw [hq]; exact hT) hdef (fun y hy e => absurd e (S.nofree y hy)) fun f c' pm ctv H2 s2 I2 keep T2 hf hfn hfr hco => wpAny_bind (wpAny_standAt (wpAny_pure ?_))))
  refine wpAny_evalAll_nil ?_
  rw [hks]
  rw [hclo, hq] at hf
  rw [hq] at T2 hco
  obtain ⟨g2, m2⟩ := rm_lam m1 hM keep T2
  have hu : X.A.in1.in1.units + 40 < cLine := by
    have := hr.un
    omega
  exact sort_core I2 (rv.grow g2) ru m2 hd hnt (fun a => ksk_t1 _ a) (lam_run S hr hf hfn hfr hco (hbind _ _ _) (fun A outer s H hr2 => hbody A outer s H f _ hr2) pure') hu hok hal hsk q fun d v M' H' g3 => kk d v M' H' ((g1.trans g2).trans g3)
end
end DL
/-! defs that hold a lambda: their code's table; the law's start and end with tables -/
namespace DL
open PySem PySem.Spec PyProof.Rows L2
section
variable {P : Program} {w : World} {K : PySem.W.Frag} {mg : Str → Option Value} {base : Heap} {k : Nat} {x q : Str} {ps N : List Str} {dsp : DSp} {st : Stmt} {c Pt : Addr}
/-- the def x, its code object at c -/
structure FunC (K : PySem.W.Frag) (x : Str) (st : Stmt) (f : Addr) (fd : FuncData) (c : Addr) : Prop where
  ex : ∃ (oc : Value) (od : Option Addr) (kV doc pm : Value) (an : Option Addr) (ct : Value) (osl : Array (Option Value)),
    fd = PySem.W.fnOf x x (defArgs st) (defBody st) (defScope st) .none kV doc pm an (.ref c) ct ∧ K.lookup f = some ⟨oc, od, .func fd, osl⟩ ∧ PySem.W.codeIn K (.ref c) x = true
  kp : PySem.W.keepIn K (.ref f) = true
structure DefC (K : PySem.W.Frag) (mg : Str → Option Value) (x : Str) (st : Stmt) (ps : List Str) (c : Addr) : Prop where
  ex : ∃ f fd, FunC K x st f fd c ∧ mg x = some (.ref f) ∧ Binds K fd ps []
theorem funC_mk {x : Str} {st : Stmt} {f : Addr} {oc : Value} {od an : Option Addr} {osl : Array (Option Value)} {kV doc pm ct : Value} (l : K.lookup f = some ⟨oc, od, .func (PySem.W.fnOf x x (defArgs st) (defBody st) (defScope st) .none kV doc pm an (.ref c) ct), osl⟩)
    (h : PySem.W.codeIn K (.ref c) x = true) (k : PySem.W.keepIn K (.ref f) = true) : FunC K x st f (PySem.W.fnOf x x (defArgs st) (defBody st) (defScope st) .none kV doc pm an (.ref c) ct) c := ⟨⟨oc, od, kV, doc, pm, an, ct, osl, rfl, l, h⟩, k⟩
theorem DefC.cal (F : DefC K mg x st ps c) (S : FnScope N ps (defScope st)) (len : ∀ ds M Q, dsp ds M Q → ds.length = ps.length) {t : DTS}
    (body : ∀ (f : Addr) (A : Around) (outer : List Env) (s : Shared) (H : Hp) (E : XK), Room k (A.deeper (envOfC x (defScope st) s.heap.objs.size f (.ref c))) → DSs (Ctx P w K mg base N x st f (.ref c) A outer s H E) (defBody st) t)
    (rd : ∀ ds M Q, dsp ds M Q → t (dEnds Q) (dstart N ds) M) : Cal P w K mg base (k + 1) x ps dsp := by
  obtain ⟨f, fd, F, hm, hb⟩ := F.ex
  have kp := F.kp
  obtain ⟨oc, od, kV, doc, pm, an, ct, osl, rfl, lk, hcd⟩ := F.ex
  refine ⟨f, _, fn_of lk hcd S (fun vs H Q E ⟨ds, M, Q', l, _, q, _⟩ => by rw [← l.length]; exact len ds M Q' q) (fun A outer s H vs Q E hr ⟨ds, M, Q', l, m, q, kk⟩ => ?_), hm, kp, hb⟩
  refine ⟨_, (body f A outer s H E hr).nox, dstart N ds, M, dEnds Q', ⟨?_, fun i d e => start_slot l e, m⟩, rd ds M Q' q,
    ⟨fun m1 M1 σ1 H1 g1 r1 ⟨M0, le, q1⟩ => kk _ _ M0 H1 g1 .non (r1.mem.le le) q1, fun _ _ _ _ _ _ z => z.elim, fun _ _ _ _ _ _ z => z.elim, fun d v M1 H1 g1 r1 m1 ⟨M0, le, q1⟩ => kk d v M0 H1 g1 r1 (m1.le le) q1⟩⟩
  simp [dstart, L2.start, l.length]
/-- a list is frozen ahead of the statements -/
theorem pss_before {X : Cx} {sts : List Stmt} {t : TS} (h : PSs X sts t) : PSs X sts (fun D σ H => ∃ p vs, H p = some (.lst vs) ∧ ∀ o, t D σ (upd H p (.frz o (.lst vs)))) := by
  refine ⟨fun pins s σ H D I ⟨p, vs, e, q⟩ => ?_⟩
  obtain ⟨o, I2⟩ := inv_frz I e
  exact h.run pins s σ _ D I2 (q o)
/-- the law's promise, where tables of code objects are known -/
def sp_lawT (T : List (Addr × Str)) : DSp := ar1 fun a M Q => (∀ p ∈ T, M p.1 = some (.tab p.2)) ∧ ∃ ns : List Int, ns.length ≤ 63 ∧ a = .lst (ns.map D.int) ∧ ∀ M', Q (.bl true) M'
def lawSp (K : PySem.W.Frag) (T : List (Addr × Str)) : Sp := fun vs H Q _ => ∃ (a : Addr) (ns : List Int), vs = [.ref a] ∧ ns.length ≤ 63 ∧ SqL K H a (ns.map V.int) ∧ (∀ p ∈ T, H p.1 = some (.tbl #[])) ∧ ∀ v H', v = V.bl true → Q v H'
theorem tabsM : ∀ {T : List (Addr × Str)}, (T.map (·.1)).Nodup → ∃ M : DM, (∀ p ∈ T, M p.1 = some (.tab p.2)) ∧ ∀ b o, M b = some o → ∃ p ∈ T, b = p.1 ∧ o = .tab p.2
  | [], _ => ⟨fun _ => none, fun _ h => absurd h (by simp), fun _ _ e => nomatch e⟩
  | z :: T, h => by
    rw [List.map_cons, List.nodup_cons] at h
    obtain ⟨M, h1, h2⟩ := tabsM h.2
    refine ⟨mput M z.1 (.tab z.2), fun p hp => ?_, fun b o e => ?_⟩
    · rcases List.mem_cons.mp hp with rfl | hp
      · exact mput_same
      · rw [mput_ne (fun e => h.1 (List.mem_map.mpr ⟨p, hp, e⟩))]
        exact h1 p hp
    · by_cases hb : b = z.1
      · rw [hb, mput_same] at e
        exact ⟨z, by simp, hb, (Option.some.inj e).symm⟩
      · rw [mput_ne hb] at e
        obtain ⟨p, hp, r⟩ := h2 b o e
        exact ⟨p, by simp [hp], r⟩
theorem fn_okT {f : Addr} {fd : FuncData} {T : List (Addr × Str)} (hT : (T.map (·.1)).Nodup) (F : Fun K x x st f fd) (S : FnScope N ["script"] (defScope st)) {t : DTS}
    (body : ∀ (f : Addr) (cdv : Value) (A : Around) (outer : List Env) (s : Shared) (H : Hp) (E : XK), Room k (A.deeper (envOfC x (defScope st) s.heap.objs.size f cdv)) → DSs (Ctx P w K mg base N x st f cdv A outer s H E) (defBody st) t)
    (rd : ∀ ds M Q, sp_lawT T ds M Q → t (dEnds Q) (dstart N ds) M) : FnOk P w K mg base CX0 (k + 1) f fd ["script"] (lawSp K T) := by
  refine F.ok S (fun vs H Q E ⟨a, ns, e, _⟩ => by rw [e]; rfl) (fun cdv A outer s H vs Q E hr ⟨a, ns, e, hns, hS, hTb, hQ⟩ => ?_)
  subst e
  have hz : (ns.map V.int).length ≤ sizeLine := by
    rw [List.length_map]
    have := sizeLine_eq
    omega
  obtain ⟨M, hM1, hM2⟩ := tabsM hT
  have rm : ∀ H' : Hp, (∀ p ∈ T, H' p.1 = some (.tbl #[])) → RM K H' M := fun H' hh b o e => by
    obtain ⟨p, hp, rfl, rfl⟩ := hM2 b o e
    exact LamX.TabS.nil (hh p hp)
  have ends : ∀ H' : Hp, EndsOk K H' (dEnds fun d _ => d = .bl true) { nx := fun _ H' => Q .non H', rt := Q } := fun H' =>
    ⟨fun m1 M1 σ1 H1 g1 r1 ⟨M0, le, q1⟩ => (by cases q1), fun _ _ _ _ _ _ z => z.elim, fun _ _ _ _ _ _ z => z.elim, fun d v M1 H1 g1 r1 m1 ⟨M0, le, q1⟩ => hQ _ _ (by
      have q1 : d = .bl true := q1
      subst q1
      cases r1
      rfl)⟩
  have rd' := rd [.lst (ns.map D.int)] M (fun d _ => d = .bl true) ⟨_, rfl, hM1, ns, hns, rfl, fun _ => rfl⟩
  have go : ∀ H' : Hp, (∀ p ∈ T, H' p.1 = some (.tbl #[])) → FrzL K H' a (ns.map V.int) → upS K t { nx := fun _ H' => Q .non H', rt := Q } (L2.start N [.ref a]) H' := fun H' hh hf =>
    ⟨dstart N [.lst (ns.map D.int)], M, _, ⟨by simp [dstart, L2.start], fun i d e => start_slot (.one (.lst hf hz (repL_ints ns))) e, rm H' hh⟩, rd', ends H'⟩
  rcases hS with (h | ⟨o, h⟩) | h
  · refine ⟨_, pss_before (body f cdv A outer s H E hr), a, _, h, fun o => go _ (fun p hp => ?_) (.inl ⟨o, upd_same⟩)⟩
    rw [upd_ne (fun z => by rw [← z] at h; rw [hTb p hp] at h; cases h)]
    exact hTb p hp
  · exact ⟨_, body f cdv A outer s H E hr, go H hTb (.inl ⟨o, h⟩)⟩
  · exact ⟨_, body f cdv A outer s H E hr, go H hTb (.inr h)⟩
/-- what a code object's fields are asked -/
def codeFields (ce : Value) (vs : Array Value) : Bool := (match ce with | .type n => n == "code" | _ => false) && (match vs.getD 18 .none with | .str _ _ => true | _ => false) && (match vs.getD 7 .none with | .int _ _ => true | _ => false) &&
  (match vs.getD 9 .none with | .bool _ => true | _ => false) && (match vs.getD 10 .none with | .int _ _ => true | _ => false)
theorem codeHd_of {h : Heap} {ce : Value} {dd : Option Addr} {vs : Array Value} {sl : Array (Option Value)} (X : K.In h) (e : K.lookup c = some ⟨ce, dd, .fields vs, sl⟩) (t : vs[11]? = some (.ref Pt)) (f : codeFields ce vs = true) (n : K.lookup Pt = none) : PySem.W.CodeHd h c Pt := by
  unfold codeFields at f
  simp only [Bool.and_eq_true] at f
  obtain ⟨⟨⟨⟨f1, f2⟩, f3⟩, f4⟩, f5⟩ := f
  have hce : ce = .type "code" := by
    cases ce <;> simp at f1
    rw [f1]
  subst hce
  have hne : c ≠ Pt := fun z => by rw [z, n] at e; cases e
  cases e1 : vs.getD 18 .none <;> rw [e1] at f2 <;> try cases f2
  cases e2 : vs.getD 7 .none <;> rw [e2] at f3 <;> try cases f3
  cases e3 : vs.getD 9 .none <;> rw [e3] at f4 <;> try cases f4
  cases e4 : vs.getD 10 .none <;> rw [e4] at f5 <;> try cases f5
  refine ⟨_, vs, _, _, _, _, _, _, _, X _ _ e, rfl, rfl, t, ?_, e1, e2, e3, e4, hne⟩
  rw [Array.getD_eq_getD_getElem?, t]
  rfl
end
/-- the end: the tables of all defs of the text are empty -/
theorem walk_ofAny {l : PySem.W.OpenLaw} {n k : Nat} {q : Program} {loose : List Str} {XP : (Str → Option Value) → Heap → Prop} {YP : World → Heap → Prop} {d : DefRec} {K : Params → PySem.W.Frag} {CX : World → CXT} {x : Str}
    (hn : l.most = some n) (hn2 : n ≤ sizeLine) (hdf : d.params.defaults = []) (hr : Room k callerA) (hY : ∀ (w : World) (h : Heap), YP w h → (K w.params).In h)
    (F : ∀ (w : World) (mg : Str → Option Value) (fa : Addr) (h : Heap), (K w.params).In h → h.Ns mainGlobals mg → mg d.name = some (.ref fa) → (∀ (y : Str) (fy : Addr), ((recsOf q).any fun e => e.name == y) = true → mg y = some (.ref fy) → LamX.OwnTab (K w.params) fy h) → LamX.LawAtS l w (K w.params) (CX w) k n x mg fa h)
    (hCX : ∀ (w : World) (H : Hp) (s : Shared) (e : Value) (s' : Shared), CX w [] H s (fun _ _ _ => False) e s' → False) :
    PySem.W.WalkO q loose XP YP l.row.toRowW d [] (fun f vs => PySem.call f vs) := by
  refine Att.attach_callB hn hdf fun w s₀ s₁ mg mb fa o pm cd doc a vs ns G Y ho hd hcd hmg hobj hints hlen hbits hg => ?_
  have KX := hY w _ Y
  have own : ∀ (y : Str) (fy : Addr), ((recsOf q).any fun e => e.name == y) = true → mg y = some (.ref fy) → LamX.OwnTab (K w.params) fy s₁.heap := fun y fy hrec hmy c P o1 fd1 e dd vs1 sl k1 k2 k3 k4 k5 => by
    obtain ⟨dL, hm, hn1⟩ := List.any_eq_true.mp hrec
    have hn2 : dL.name = y := beq_iff_eq.mp hn1
    obtain ⟨a', o', fd', c', P', h1, h2, h3, h4, h5, h6⟩ := G.T.tab dL hm
    rw [hn2, hmy] at h1
    cases h1
    have g1 := KX _ _ k1
    rw [g1] at h2
    cases h2
    rw [k2] at h3
    cases h3
    rw [k3] at h4
    cases h4
    obtain ⟨⟨oc, vc, e1, _, e3, e4⟩, hP⟩ := h6
    have g2 := KX _ _ k4
    rw [g2] at e1
    cases e1
    cases e3
    rw [k5] at e4
    cases e4
    exact hP
  obtain ⟨fd, cs, sp, hT, nT, C, hb, hsp, hF⟩ := F w mg fa _ KX G.T.g hmg own
  exact LamX.law_callTs KX G.T.g G.T.b G.T.builtins G.T.nolimit hg hT nT C G.T.bmain hobj hints (Nat.le_trans hlen hn2) hr hF hb (fun H hH hS => hsp H a ns hlen hbits hH hS) fun H e s' => hCX w H s₁ e s'
end DL
/-! sorted(set(a list of ints)) -/
namespace DL
open PySem PySem.Spec PyProof.Rows L2
section
variable {P : Program} {w : World} {A : Around} {E : Value → Shared → Prop} {s : Shared}
set_option maxHeartbeats 3200000 in
/-- set(xs), a list of ints: with what a walk over it wants to know -/
theorem call_set_listI {l : Addr} {items : Array Value} (ns : List Int) {Q : Value → Shared → Prop} (hh : A.handled = none) (hl : s.heap.IsList l items) (hit : IntsAre items.toList ns) (hb : ns.length + 1 < scanBound)
    (h : ∀ (h' : Heap) (tk c : Nat), SetR w h' s.heap.objs.size (fun j => decide (j ∈ ns)) c → c ≤ ns.length → (∀ b o, s.heap.get? b = some o → h'.get? b = some o) → Q (.ref s.heap.objs.size) { s with heap := h', toks := tk }) :
    wpAny (model P w) A (call (.type "set") [.ref l]) Q E s := by
  have hisz : items.size = ns.length := by
    have q := IntsAre.length hit
    rwa [Array.length_toList] at q
  obtain ⟨c, tl, hmro⟩ := F.called_set.mro
  have hmade := F.called_set.made
  have hsub := F.called_set.sub
  refine wpAny_call (codeAny_of_tree ?_)
  show wpAny _ _ (callAny (.type "set") _) _ _ _
  refine wpAny_pure ⟨Code.quiet_builtin _ (by decide +kernel), codeAny_builtin F.entry_type_call ?_⟩
  rw [Around.under_plain (weight_type_call_type "set" [.ref l] []) rfl]
  have h1 := F.called_set.notType
  have h2 := F.called_set.canCreate
  have hct := F.typeCall_set_1 (.ref l)
  repeat (any_goals (first | assumption | wp_step))
  refine codeAny_mono (code_set_led1 (.ref l) (E := E) (Q₁ := fun obj s₁ => obj = .ref s.heap.objs.size ∧ s₁ = { s with heap := s.heap.push { cls := .type "set", dict := none, data := .set #[] 0 (.fresh 0 0 (!w.params.followText "set-order")) } }) ⟨rfl, rfl⟩) fun r s₁ hr => ?_
  cases r with
  | error e => exact hr
  | ok fl =>
    cases fl with
    | ret obj =>
      obtain ⟨rfl, rfl⟩ := hr
      have hS : (s.heap.push { cls := .type "set", dict := none, data := .set #[] 0 (.fresh 0 0 (!w.params.followText "set-order")) }).get? s.heap.objs.size = some { cls := .type "set", dict := none, data := .set #[] 0 (.fresh 0 0 (!w.params.followText "set-order")) } := Heap.get?_push_size _ rfl
      have hT : Shared.TypeIs { s with heap := s.heap.push { cls := .type "set", dict := none, data := .set #[] 0 (.fresh 0 0 (!w.params.followText "set-order")) } } (.ref s.heap.objs.size) "set" := ⟨_, hS, rfl⟩
      have hli := F.called_set.init.lookup
      have hbi := F.called_set.init.bind (.ref s.heap.objs.size)
      repeat (any_goals (first | assumption | wp_step))
      refine codeAny_mono (codeAny_call_builtin (R := wants (fun r s₂ => r = .none ∧ ∃ h' tk c, s₂ = { s with heap := h', toks := tk } ∧ SetR w h' s.heap.objs.size (fun j => decide (j ∈ ns)) c ∧ c ≤ ns.length ∧
          (∀ b o, s.heap.get? b = some o → h'.get? b = some o)) E) F.called_set.init.plain F.entry_set_init (check_set_init_1 hT ?_)) fun r₂ s₂ hr₂ => ?_
      · obtain ⟨ol, hol, hcl, nl, hdl⟩ := hl
        obtain ⟨ocls, odict, odata, oslots⟩ := ol
        simp only at hcl hdl
        subst hcl hdl
        have hol' : (s.heap.push { cls := .type "set", dict := none, data := .set #[] 0 (.fresh 0 0 (!w.params.followText "set-order")) }).get? l = some { cls := .type "list", dict := odict, data := .seq items nl, slots := oslots } := Heap.get?_push_of_some _ hol
        have hsls := F.sub_list_set
        have hslf := F.sub_list_frozenset
        have hne : (Value.type "list" == Value.type "dict") = false := by decide
        have hl1 : (s.heap.push { cls := .type "set", dict := none, data := .set #[] 0 (.fresh 0 0 (!w.params.followText "set-order")) }).IsList l items := ⟨_, hol', rfl, nl, rfl⟩
        unfold Builtin.«set.__init__» noKeywords Builtin.Frozenset.updateFrom
        generalize hPI : pyIter = PI
        wp_walk
        subst hPI
        refine wpAny_pyIter_list hl1 ?_
        refine wpAny_bind (wpAny_runValue ?_)
        have hlS : l < s.heap.objs.size := Heap.lt_size hol
        have hh3 : A.in1.in1.in1.handled = none := by simp [hh]
        have hneI : l ≠ (s.heap.push { cls := .type "set", dict := none, data := .set #[] 0 (.fresh 0 0 (!w.params.followText "set-order")) }).objs.size := by
          rw [Heap.size_push]; exact Nat.ne_of_lt (Nat.lt_succ_of_lt hlS)
        have hSf : s.heap.objs.size ∉ [(s.heap.push { cls := .type "set", dict := none, data := .set #[] 0 (.fresh 0 0 (!w.params.followText "set-order")) }).objs.size, l] := by
          rw [Heap.size_push]; simp only [List.mem_cons, List.mem_singleton, List.not_mem_nil, or_false, not_or]
          exact ⟨Nat.ne_of_lt (Nat.lt_succ_self _), Nat.ne_of_gt hlS⟩
        have hval : ∀ (i : Nat) (v : Value), items[i]? = some v → ∃ k t, ns[i]? = some k ∧ v = .int k t := fun i v hv => by
          have hi : i < ns.length := by rw [← hisz]; exact (Array.getElem?_eq_some_iff.mp hv).1
          obtain ⟨t, e⟩ := PyProof.Rows.IntsAre.int_at hit i v (by rw [Array.getElem?_toList]; exact hv)
          refine ⟨ns[i], t, List.getElem?_eq_getElem hi, ?_⟩
          rw [e, List.getD_eq_getElem?_getD, List.getElem?_eq_getElem hi] <;> rfl
        refine set_update_ints ((Walks.list hh3 _ l hneI items).toS) s.heap.objs.size
          hSf ns hisz hb hval (items.size - 0) 0 _ (by omega) (Nat.zero_le _)
          ⟨⟨_, Heap.get?_push_size _ rfl, rfl, rfl⟩, (hl1.push _)⟩ ?hS0 ?hR
        case hS0 =>
          have hget : ((s.heap.push { cls := .type "set", dict := none, data := .set #[] 0 (.fresh 0 0 (!w.params.followText "set-order")) }).push { cls := .type "list_iterator", data := .fields #[.ref l, .int 0 0] }).get? s.heap.objs.size
              = some { cls := .type "set", dict := none, data := .set #[] 0 (.fresh 0 0 (!w.params.followText "set-order")) } := Heap.get?_push_of_some _ hS
          exact ⟨0, Nat.le_refl 0, setR_new_at hget⟩
        case hR =>
          intro s' c' hm hc' hS'
          obtain ⟨h', g2, d', tk', os'⟩ := s'
          have eg : g2 = s.gens := hm.gens
          have ed : d' = s.drawn := hm.drawn
          have eo : os' = s.os := hm.os
          subst eg; subst ed; subst eo
          show wpAny _ _ _ _ _ _
          refine wpAny_pure ?_
          show wpAny _ _ (PySem.ret Value.none) _ _ _
          rw [hisz] at hc'
          refine wpAny_pure ⟨rfl, h', tk', c', rfl, hS', hc', fun b o e => ?_⟩
          have hb0 : b < s.heap.objs.size := Heap.lt_size e
          have hb1 : b ≠ s.heap.objs.size := Nat.ne_of_lt hb0
          have hb2 : b ≠ (s.heap.push { cls := .type "set", dict := none, data := .set #[] 0 (.fresh 0 0 (!w.params.followText "set-order")) }).objs.size := by
            rw [Heap.size_push]; exact Nat.ne_of_lt (Nat.lt_succ_of_lt hb0)
          exact hm.heap b o (by simp only [List.mem_cons, List.mem_singleton, List.not_mem_nil, or_false, not_or]; exact ⟨hb1, hb2⟩) (Heap.get?_push_of_some _ (Heap.get?_push_of_some _ e))
      · cases r₂ with
        | error e => exact hr₂
        | ok fl₂ =>
          cases fl₂ with
          | ret r =>
            obtain ⟨rfl, h', tk, c', rfl, hS', hc', hk'⟩ := hr₂
            repeat (any_goals (first | assumption | wp_step))
            exact h _ _ _ hS' hc' hk'
          | _ => exact hr₂.elim
    | _ => exact hr.elim
/-- sorted(a set of ints), of any size -/
theorem sorted_setI {a : Addr} {S : Int → Bool} {n : Nat} {Q : Value → Shared → Prop} (R : SetR w s.heap a S n) (hh : A.handled = none) (hu : A.units + 40 < cLine)
    (hQ : ∀ s' p (out : Array Value) (c : Nat) (ns : List Int), (∀ b o, s.heap.get? b = some o → s'.heap.get? b = some o) → s'.gens = s.gens → s'.os = s.os → s.heap.objs.size ≤ p →
      s'.heap.get? p = some (seqObj "list" out c) → IntsAre out.toList ns → ns.Pairwise (· < ·) → (∀ k, k ∈ ns ↔ S k = true) → ns.length = n → Q (.ref p) s') :
    wpAny (model P w) A (call (.builtin "sorted") [.ref a]) Q E s := by
  obtain ⟨o, es, ep, t, ho, hex, hd, g, nd, hm, hb, hf, hn, hr, hl⟩ := R
  refine Calls.call_function_entry kind_sorted plain_sorted entry_sorted (args_sorted1 _) ?_
  unfold Builtin.«sorted»
  refine wpAny_bind (m := checkCount "sorted" 1 1 _) (wpAny_pure ?_)
  refine wpAny_bind (collect_set (A := A.in1) hh ⟨o, ho, hex.1, hd⟩ hf hb hr hl fun s1 vs k1 hz g1 o1 pm => ?_)
  have hvl : vs.length = n := by rw [pm.length_eq, List.length_map, Array.length_toList]; exact hn
  have hnl : n ≤ sizeLine := by
    rw [← hn, sizeLine_eq]
    unfold scanBound at hb
    omega
  have hI : IntsAre vs (vs.map Builtin.Re.reRawOf) := ints_of vs fun v hv => by
    obtain ⟨e, he, q⟩ := List.mem_map.mp (pm.mem_iff.mp hv)
    obtain ⟨k, tk, h1, _⟩ := g e he
    exact ⟨k, tk, by rw [← q]; exact h1⟩
  have pk : (vs.map Builtin.Re.reRawOf).Perm (es.toList.map keyOf) := by
    have q := pm.map Builtin.Re.reRawOf
    rw [List.map_map] at q
    exact q
  refine wpAny_bind (wpAny_newList ?_ (by rw [hvl]; exact hnl))
  have hoL : (s1.heap.push (seqObj "list" vs.toArray 0)).get? s1.heap.objs.size = some (seqObj "list" vs.toArray 0) := Heap.get?_push_size _ rfl
  generalize hbs : vs.map Builtin.Re.reRawOf = bs at hI pk
  have eachI : ∀ {us : List Value} {ks : List Int}, IntsAre us ks → PySem.W.EachIs (fun v k => ∃ t, v = Value.int k t) us ks := by
    intro us ks h
    induction h with
    | nil => exact .nil
    | cons k t _ ih => exact .cons ⟨t, rfl⟩ ih
  have intsE : ∀ {us : List Value} {ks : List Int}, PySem.W.EachIs (fun v k => ∃ t, v = Value.int k t) us ks → IntsAre us ks := by
    intro us ks h
    induction h with
    | nil => exact .nil
    | cons r _ ih =>
      obtain ⟨t, rfl⟩ := r
      exact .cons _ t ih
  have hbl : bs.length = n := by rw [← hI.length, hvl]
  refine wpAny_bind (wpAny_holding (PySem.W.list_sort_data (enc := fun k : Int => .int k) (bs := bs) (R := fun v k => ∃ t, v = Value.int k t) hoL (eachI hI) ((eachI hI).mono fun v k ⟨t, e⟩ => ⟨[], by rw [e]; exact .int k t, by simp⟩)
    (PySem.W.AllAlike.of fun _ _ => by simp [PySem.W.alike]) (PySem.W.Sortable.others fun _ => ⟨(fun z => by cases z), fun _ z => by cases z⟩) (by rw [hbl]; exact hnl) (fun b _ => by
      simp only [PyData.depth]
      show A.units + 1 + 1 + 0 < cLine
      omega) fun out hol ho2 => ?_))
  have ho3 := intsE ho2
  obtain ⟨c, hc⟩ := sortedHeap_at (vs := vs) (out := List.toArray out) hoL
  have hperm : (bs.mergeSort (PySem.W.dataLe false fun k : Int => .int k)).Perm bs := List.mergeSort_perm _ _
  have pn := hperm.trans pk
  have hle : (bs.mergeSort (PySem.W.dataLe false fun k : Int => .int k)).Pairwise (· ≤ ·) := by
    have e : PySem.W.dataLe false (fun k : Int => PyData.int k) = fun a b => decide (a ≤ b) := PySem.W.dataLe_int fun k => k
    rw [e]
    have := List.pairwise_mergeSort (le := fun a b : Int => decide (a ≤ b)) (fun a b c h1 h2 => by simp at *; omega) (fun a b => by simp; omega) bs
    exact this.imp fun h => by simpa using h
  refine wpAny_pure ⟨_, rfl, hQ _ s1.heap.objs.size (List.toArray out) c _ (fun b u e => ?_) g1 o1 hz hc (by simpa using ho3) (lt_of_le_nodup _ hle (pn.nodup_iff.mpr nd)) (fun k => by rw [pn.mem_iff, ← hm k]) ?_⟩
  · have q := k1 b u e
    have hlt := Heap.lt_size q
    show (sortedHeap (s1.heap.push (seqObj "list" vs.toArray 0)) s1.heap.objs.size vs (List.toArray out)).get? b = some u
    rw [sortedHeap_old (Nat.ne_of_lt hlt) (by rw [size_push']; exact Nat.lt_succ_of_lt hlt)]
    exact Heap.get?_push_of_some _ q
  · rw [hperm.length_eq, hbl]
end
section
variable {X : Cx}
/-- sorted(set(e)), e a list of ints -/
def dSortSet (te : DTE) : DTE := fun m M Q => te m M fun d M1 => ∃ ns : List Int, dItems d M1 = some (ns.map D.int) ∧ d ≠ .tup (ns.map D.int) ∧ ns.length ≤ 4000 ∧ ∀ (rs : List Int) (p : Addr), rs.Pairwise (· < ·) → (∀ k, k ∈ rs ↔ k ∈ ns) → rs.length ≤ ns.length → M1 p = none → Q (.ref p) (mput M1 p (.lst (rs.map D.int)))
theorem repL_intsV {K : PySem.W.Frag} {H : Hp} : ∀ {ns : List Int} {vs : List V}, RepL K H (ns.map D.int) vs → vs = ns.map V.int
  | [], _, .nil => rfl
  | n :: ns, _, .cons a r => by
    cases a
    rw [List.map_cons, repL_intsV r]
theorem d_sortSet {e : Expr} {te : DTE} {p p2 q pos : Pos} (hc : X.calm = true) (hu : X.A.units + 64 < cLine) (hg : Gl X "sorted") (hm : X.mg "sorted" = none) (hg2 : Gl X "set") (hm2 : X.mg "set" = none) (he : DE X e te)
    (na : starEach [e] X.env = (false, eval e X.env) :: starEach [] X.env := by rfl) : DE X (.Call (.Name "sorted" p) [.Call (.Name "set" p2) [e] [] q] [] pos) (dSortSet te) := by
  refine ⟨fun pins s σ H Q I ⟨m, M, Q', r, h, kk⟩ => ?_⟩
  refine Call_ (ld_blt I hg hm boot_sorted ?_)
  refine PyProof.Rows.callWith_builtin1 (PyProof.Rows.args_cons ?_ rfl) rfl rfl
  refine Call_ (ld_blt I hg2 hm2 boot_set ?_)
  refine PyProof.Rows.callWith_type1 (PyProof.Rows.args_cons (thn (he.run pins s σ H (fun v H1 => ∃ d M1, Grow H H1 ∧ Rep X.K H1 d v ∧ RM X.K H1 M1 ∧ ∃ ns : List Int, dItems d M1 = some (ns.map D.int) ∧ d ≠ .tup (ns.map D.int) ∧ ns.length ≤ 4000 ∧ ∀ (rs : List Int) (p : Addr), rs.Pairwise (· < ·) → (∀ k, k ∈ rs ↔ k ∈ ns) → rs.length ≤ ns.length → M1 p = none → Q' (.ref p) (mput M1 p (.lst (rs.map D.int)))) I
    ⟨m, M, _, r, h, fun d v M1 H1 g1 r1 m1 q1 => ⟨d, M1, g1, r1, m1, q1⟩⟩) fun v s1 ⟨x, H1, I1, r1, d, M1, g1, rd, m1, ns, hd, hnt, hl, q1⟩ => PyProof.Rows.args_nil ?_) na) na rfl
  obtain ⟨l, vs, rfl, hz, rl, hS⟩ := lst_of rd m1 hd hnt
  have evs := repL_intsV rl
  subst evs
  cases r1
  obtain ⟨its, ri, pl, _⟩ := I1.list hS
  refine call_set_listI ns (I1.ok.hd hc) pl.isList (by simpa using RZ.intsAre_vals ri) (by unfold scanBound; omega) fun h' tk c hR hcl hk => ?_
  refine PyProof.Rows.args_nil ?_
  have I2 : Inv X pins σ H1 { s1 with heap := h', toks := tk } := I1.kept hk
  have hR2 : SetR X.w ({ s1 with heap := h', toks := tk } : Shared).heap s1.heap.objs.size (fun j => decide (j ∈ ns)) c := hR
  generalize hs2 : ({ s1 with heap := h', toks := tk } : Shared) = s2 at I2 hR2 ⊢
  refine sorted_setI (s := s2) hR2 (I2.ok.hd hc) (by omega) fun s' p out c2 rs k g o hp hg hi hs hm hln => ?_
  have hlen : (rs.map V.int).length ≤ sizeLine := by rw [List.length_map, hln, sizeLine_eq]; omega
  have hn : H1 p = none := I2.hok.fresh hp
  have J : Inv X pins σ (upd H1 p (.lst (rs.map V.int))) { s2 with heap := s'.heap, gens := s'.gens, drawn := s'.drawn, toks := s'.toks } :=
    I2.call (ch := []) (Un.laid k hp hn) (I2.hok.laid k hp ⟨hlen, out.toList, c2, vals_of_ints hi, hg⟩) (by rw [g]; exact I2.bare) (fun _ z => nomatch z)
  have e : s' = { s2 with heap := s'.heap, gens := s'.gens, drawn := s'.drawn, toks := s'.toks } := by
    cases s'
    cases s2
    cases o
    rfl
  rw [e]
  exact ⟨.ref p, _, J, rfl, kk _ _ _ _ (g1.trans (.new hn)) (.ref _) (m1.newLst hn hlen (repL_ints rs)) (q1 rs p hs (fun k => by rw [hm k, decide_eq_true_iff]) (by omega) (m1.free hn))⟩
end
end DL
/-! [*a, .., *b], a and b tuples -/
namespace DL
open PySem PySem.Spec PyProof.Rows L2
section
variable {X : Cx} {e : Expr} {es : List Expr} {te : DTE} {t : DTA} {p : Pos}
def dStar (te : DTE) (t : DTA) : DTA := fun m M Q => te m M fun d M1 => ∃ ds, d = .tup ds ∧ t m M1 fun es M2 => Q (ds ++ es) M2
theorem da_star (he : DE X e te) (hr : DA X es t) (hs : starEach (.Starred e p :: es) X.env = (true, eval e X.env) :: starEach es X.env := by rfl) : DA X (.Starred e p :: es) (dStar te t) :=
  imA (StX.pa_star he hr hs) fun σ H Q ⟨m, M, Q', r, q, k⟩ => by
    refine ⟨m, M, _, r, q, fun d v M1 H1 g1 r1 m1 ⟨ds, e1, q1⟩ => ?_⟩
    subst e1
    cases r1 with
    | tup h z l =>
      refine ⟨_, _, rfl, .inl h, m, M1, _, r.grow g1 m1, q1, fun ds2 vs2 M2 H2 g2 r2 m2 q2 => ?_⟩
      exact k _ _ M2 H2 (g1.trans g2) (RepL.append (l.grow g2) r2) m2 q2
end
end DL
/-! str(an int), int(a text) -/
namespace DL
open PySem PySem.Spec PyProof.Rows L2
section
variable {X : Cx}
def rIntS : DCR := fun ds M Q => ∃ z n, ds = [.str z] ∧ PySem.intText? z = some n ∧ z.length ≤ 640 ∧ Q (.int n) M
theorem c_intS : DCall X (.type "int") rIntS := by
  intro pins s σ H vs us Q I r ⟨ds, M, Q', l, m, ⟨z, n, e, h, hl, q⟩, k⟩
  subst e
  obtain ⟨v, e, rv⟩ := repL_one l
  subst e
  cases rv
  exact call_int_str pins s σ H _ us Q I r ⟨z, n, rfl, h, hl, k _ _ M H (.refl H) (.int _) m q⟩
def rStrI : DCR := fun ds M Q => ∃ i : Int, ds = [.int i] ∧ i.natAbs.log2 < 1920 ∧ Q (.str (toString i)) M
theorem c_strI : DCall X (.type "str") rStrI := by
  intro pins s σ H vs us Q I r ⟨ds, M, Q', l, m, ⟨i, e, h, q⟩, k⟩
  subst e
  obtain ⟨v, e, rv⟩ := repL_one l
  subst e
  cases rv
  exact call_str_int pins s σ H _ us Q I r ⟨i, rfl, h, k _ _ M H (.refl H) (.str _) m q⟩
end
theorem int_str {i : Int} (h : i.natAbs < 10 ^ 300) : PySem.intText? (Str.ofString (toString i)) = some i ∧ (Str.ofString (toString i)).length ≤ 640 := by
  cases i with
  | ofNat n =>
    have hn : n < 10 ^ 300 := h
    have hl := TL.numL_len (by decide) hn
    refine ⟨TL.int_num (by omega), ?_⟩
    rw [TL.len_tl, show TL.tl (Str.ofString (toString (Int.ofNat n))) = TL.numL n from TL.tl_num n]
    omega
  | negSucc n =>
    have hn : n + 1 < 10 ^ 300 := h
    have hl := TL.numL_len (by decide) hn
    have e1 : toString (Int.negSucc n) = "-" ++ toString ((n + 1 : Nat) : Int) := rfl
    have e2 : TL.tl (Str.ofString (toString (Int.negSucc n))) = 45 :: TL.numL (n + 1) := by
      have q := TL.tl_num (n + 1)
      rw [TL.tl_ofString] at q
      rw [e1, TL.tl_ofString, String.toList_append, List.map_append, q]
      rfl
    have hlen : (Str.ofString (toString (Int.negSucc n))).length ≤ 640 := by
      rw [TL.len_tl, e2, List.length_cons]
      omega
    refine ⟨?_, hlen⟩
    rw [intText_neg (x := Str.ofString (toString (Int.negSucc n))) (cs := TL.numL (n + 1)) e2 (TL.numL_digits _) (TL.numL_ne _) (by omega), TL.numL_val]
    rfl
theorem log2_lt {n : Nat} (h : n < 10 ^ 300) : n.log2 < 1920 := by
  by_cases c : n = 0
  · subst c
    decide
  · rw [Nat.log2_lt c]
    refine Nat.lt_of_lt_of_le h ?_
    decide +kernel
end DL
/-! dicts whose keys are ints and texts: in the mutable part (DO.dk), or frozen: plain data (D.dct) -/
namespace DL
open PySem PySem.Spec PyProof.Rows L2

/-! ### keys -/
def isKb : D → Bool
  | .int _ => true
  | .str _ => true
  | _ => false
theorem isKb_int (i : Int) : isKb (.int i) = true := rfl
theorem isKb_str (x : Str) : isKb (.str x) = true := rfl
theorem isKb_kD (k : Key) : isKb (kD k) = true := by cases k <;> rfl
theorem isKb_ex {d : D} (h : isKb d = true) : ∃ k, d = kD k := by
  cases d with
  | int i => exact ⟨.inl i, rfl⟩
  | str x => exact ⟨.inr x, rfl⟩
  | _ => cases h
theorem nk_kD {a b : Key} : nk (kD a) = nk (kD b) ↔ a = b := by
  constructor
  · intro h
    cases a <;> cases b <;> simp [kD, nk] at h <;> simp [h]
  · intro h
    rw [h]
theorem rep_kD {K : PySem.W.Frag} {H : Hp} (k : Key) : Rep K H (kD k) (kV k) := by
  cases k with
  | inl i => exact .int i
  | inr x => exact .str x
theorem rep_kV {K : PySem.W.Frag} {H : Hp} {k : Key} {v : V} (r : Rep K H (kD k) v) : v = kV k := by
  cases k <;> cases r <;> rfl
/-- what the dict holds -/
def dDict : D → DM → Option (List (D × D))
  | .dct kvs, _ => some kvs
  | .ref a, M => match M a with
    | some (.dk kvs) => some kvs
    | _ => none
  | _, _ => none
@[simp] theorem dDict_dct {kvs : List (D × D)} {M : DM} : dDict (.dct kvs) M = some kvs := rfl
theorem dDict_ref {kvs : List (D × D)} {M : DM} {a : Addr} (h : M a = some (.dk kvs)) : dDict (.ref a) M = some kvs := by
  simp [dDict, h]
theorem dDict_put {kvs : List (D × D)} {M : DM} {a : Addr} : dDict (.ref a) (mput M a (.dk kvs)) = some kvs := dDict_ref mput_same
theorem dDict_rf {M : DM} {a : Addr} : dDict (.ref a) M = match M a with
    | some (.dk kvs) => some kvs
    | _ => none := rfl
section
variable {K : PySem.W.Frag} {H H' : Hp} {M : DM}
theorem RepK.length : ∀ {kvs : List (D × D)} {es : List (Key × V)}, RepK K H kvs es → kvs.length = es.length
  | _, _, .nil => rfl
  | _, _, .cons _ l => congrArg (· + 1) l.length
theorem RepK.get : ∀ {kvs : List (D × D)} {es : List (Key × V)} {i : Nat} {k : Key} {v : V}, RepK K H kvs es → es[i]? = some (k, v) → ∃ d, kvs[i]? = some (kD k, d) ∧ Rep K H d v
  | _, _, _, _, _, .nil, e => by simp at e
  | _, _, 0, _, _, .cons h _, e => by
    simp at e
    obtain ⟨rfl, rfl⟩ := e
    exact ⟨_, rfl, h⟩
  | _, _, i + 1, _, _, .cons _ l, e => by
    obtain ⟨d, h1, h2⟩ := RepK.get (i := i) l (by simpa using e)
    exact ⟨d, by simpa using h1, h2⟩
theorem RepK.val {k : Key} : ∀ {kvs : List (D × D)} {es : List (Key × V)}, RepK K H kvs es → (dget kvs (kD k) = none ∧ valV es k = none) ∨ ∃ d y, dget kvs (kD k) = some d ∧ valV es k = some y ∧ Rep K H d y
  | _, _, .nil => .inl ⟨rfl, rfl⟩
  | _, _, .cons (k := k1) (d := d) h l => by
    have ih := RepK.val (k := k) l
    by_cases c : k1 = k
    · subst c
      refine .inr ⟨d, _, ?_, valV_pos rfl, h⟩
      unfold dget
      rw [List.find?_cons, decide_eq_true rfl]
      rfl
    · rw [valV_neg (p := (k1, _)) c]
      unfold dget at ih ⊢
      rw [List.find?_cons, decide_eq_false (fun z => c (nk_kD.mp z))]
      exact ih
theorem RepK.has {k : Key} : ∀ {kvs : List (D × D)} {es : List (Key × V)}, RepK K H kvs es → (es.any fun kv => decide (kv.1 = k)) = dhas kvs (kD k)
  | _, _, .nil => rfl
  | _, _, .cons (k := k1) h l => by
    have ih := RepK.has (k := k) l
    unfold dhas at ih ⊢
    rw [List.any_cons, List.any_cons, ih]
    congr 1
    by_cases c : k1 = k
    · rw [decide_eq_true c, decide_eq_true (nk_kD.mpr c)]
    · rw [decide_eq_false c, decide_eq_false (fun z => c (nk_kD.mp z))]
theorem RepK.map {k : Key} {d : D} {y : V} (rd : Rep K H d y) : ∀ {kvs : List (D × D)} {es : List (Key × V)}, RepK K H kvs es → RepK K H (kvs.map fun p => if nk p.1 = nk (kD k) then (p.1, d) else p) (es.map fun kv => if kv.1 = k then (kv.1, y) else kv)
  | _, _, .nil => .nil
  | _, _, .cons (k := k1) h l => by
    rw [List.map_cons, List.map_cons]
    by_cases c : k1 = k
    · rw [if_pos (show (k1, _).1 = k from c), if_pos (show nk (kD k1, _).1 = nk (kD k) from nk_kD.mpr c)]
      exact .cons rd (RepK.map rd l)
    · rw [if_neg (show ¬ (k1, _).1 = k from c), if_neg (show ¬ nk (kD k1, _).1 = nk (kD k) from fun z => c (nk_kD.mp z))]
      exact .cons h (RepK.map rd l)
theorem RepK.snoc {k : Key} {d : D} {y : V} (rd : Rep K H d y) : ∀ {kvs : List (D × D)} {es : List (Key × V)}, RepK K H kvs es → RepK K H (kvs ++ [(kD k, d)]) (es ++ [(k, y)])
  | _, _, .nil => .cons rd .nil
  | _, _, .cons h l => .cons h (RepK.snoc rd l)
theorem RepK.put {k : Key} {d : D} {y : V} {kvs : List (D × D)} {es : List (Key × V)} (l : RepK K H kvs es) (rd : Rep K H d y) : RepK K H (dput kvs (kD k) d) (putK es k y) := by
  unfold dput putK
  rw [l.has]
  split
  · exact l.map rd
  · exact l.snoc rd
theorem RepK.keys : ∀ {kvs : List (D × D)} {es : List (Key × V)}, RepK K H kvs es → RepL K H (kvs.map (·.1)) (es.map fun x => kV x.1)
  | _, _, .nil => .nil
  | _, _, .cons (k := k) _ l => .cons (rep_kD k) (RepK.keys l)
theorem dict_at {d : D} {v : V} {kvs : List (D × D)} (r : Rep K H d v) (m : RM K H M) (e : dDict d M = some kvs) : ∃ a es, v = .ref a ∧ Rd H a (.dK es) ∧ es.length ≤ sizeLine ∧ RepK K H kvs es := by
  cases r with
  | dct h z l =>
    cases e
    exact ⟨_, _, rfl, .inr ⟨_, h⟩, z, l⟩
  | ref a =>
    cases q : M a with
    | none => simp [dDict, q] at e
    | some o =>
      cases o with
      | dk ks =>
        simp [dDict, q] at e
        subst e
        obtain ⟨es, h, z, l⟩ := m a _ q
        exact ⟨a, es, rfl, .inl h, z, l⟩
      | _ => simp [dDict, q] at e
  | _ => cases e
theorem Grow.dk {p : Addr} {es : List (Key × V)} {o : HO} (h : H p = some (.dK es)) : Grow H (upd H p o) :=
  ⟨fun b xs e => by rw [upd_ne (ne_of e h (by intro z; cases z))]; exact e, fun b q u e => by rw [upd_ne (ne_of e h (by intro z; cases z))]; exact e, fun b q e => by rw [upd_ne (ne_of e h (by intro z; cases z))]; exact e⟩
theorem RM.putDk {p : Addr} {es es' : List (Key × V)} {kvs : List (D × D)} (h : RM K H M) (hp : H p = some (.dK es)) (hz : es'.length ≤ sizeLine) (l : RepK K H kvs es') : RM K (upd H p (.dK es')) (mput M p (.dk kvs)) := fun a q e => by
  have g : Grow H (upd H p (.dK es')) := Grow.dk hp
  by_cases ha : a = p
  · subst ha
    rw [mput_same] at e
    cases e
    exact ⟨es', upd_same, hz, l.grow g⟩
  · rw [mput_ne ha] at e
    exact (h a q e).stay (upd_ne ha) g
theorem RM.newDk {p : Addr} {es : List (Key × V)} {kvs : List (D × D)} (h : RM K H M) (hp : H p = none) (hz : es.length ≤ sizeLine) (l : RepK K H kvs es) : RM K (upd H p (.dK es)) (mput M p (.dk kvs)) := fun a q e => by
  by_cases ha : a = p
  · subst ha
    rw [mput_same] at e
    cases e
    exact ⟨es, upd_same, hz, l.grow (.new hp)⟩
  · rw [mput_ne ha] at e
    exact h.new hp a q e
theorem RM.dk {a : Addr} {kvs : List (D × D)} (h : RM K H M) (e : M a = some (.dk kvs)) : ∃ es, H a = some (.dK es) ∧ es.length ≤ sizeLine ∧ RepK K H kvs es := h a _ e
theorem RM.frzDk {p : Addr} {es : List (Key × V)} {o : Obj} (h : RM K H M) (hp : H p = some (.dK es)) : RM K (upd H p (.frz o (.dK es))) (mdel M p) := fun a q e => by
  have ha : a ≠ p := fun z => by
    subst z
    unfold mdel at e
    simp at e
  have e' : M a = some q := by
    unfold mdel at e
    rw [if_neg ha] at e
    exact e
  exact (h a q e').stay (upd_ne ha) (Grow.dk hp)
end
theorem dput_len' (kvs : List (D × D)) (k v : D) : (dput kvs k v).length ≤ kvs.length + 1 := dput_len kvs k v

section
variable {X : Cx} {o e a b f : Expr} {pos apos cpos : Pos} {to te tf ta tb : DTE}
/-! ### d[k], k in d, k not in d -/
def dKIx (to te : DTE) : DTE := fun m M Q => to m M fun x M1 => te m M1 fun y M2 => ∃ kvs v, dDict x M2 = some kvs ∧ isKb y = true ∧ dget kvs y = some v ∧ Q v M2
theorem d_kix (hu : X.A.units + 1 < cLine) (ho : DE X o to) (he : DE X e te) (hs : NoSl e) : DE X (.Subscript o e pos) (dKIx to te) :=
  imE (pe_dget hu ho he hs) fun σ H Q ⟨m, M, Q', r, q, kk⟩ => by
    refine ⟨m, M, _, r, q, fun x v1 M1 H1 g1 r1 m1 q1 => ⟨m, M1, _, r.grow g1 m1, q1, fun y v2 M2 H2 g2 r2 m2 ⟨kvs, v, e1, e2, e3, q2⟩ => ?_⟩⟩
    obtain ⟨p, es, rfl, hr, z, l⟩ := dict_at (r1.grow g2) m2 e1
    obtain ⟨k, rfl⟩ := isKb_ex e2
    obtain rfl := rep_kV r2
    rcases l.val (k := k) with ⟨n1, _⟩ | ⟨d, y, n1, n2, rd⟩
    · rw [n1] at e3
      cases e3
    · rw [n1] at e3
      cases e3
      exact ⟨p, y, rfl, .inl ⟨es, k, hr, rfl, n2.symm⟩, kk _ _ M2 H2 (g1.trans g2) rd m2 q2⟩
def dKIn : DR2 := fun x y M Q => ∃ kvs, dDict y M = some kvs ∧ isKb x = true ∧ Q (.bl (dhas kvs x)) M
def dKNotIn : DR2 := fun x y M Q => ∃ kvs, dDict y M = some kvs ∧ isKb x = true ∧ Q (.bl (!dhas kvs x)) M
theorem has_val {K : PySem.W.Frag} {H : Hp} {kvs : List (D × D)} {es : List (Key × V)} (l : RepK K H kvs es) (k : Key) : (valV es k).isSome = dhas kvs (kD k) := by
  rw [← valV_any, l.has]
theorem o_inK (hu : X.A.units + 1 < cLine) : DOp X (compareOp .In) dKIn := by
  intro pins s σ H x y v u Q I rx ry ⟨d, e, M, Q', r1, r2, m, ⟨kvs, e1, e2, q⟩, k⟩
  obtain ⟨p, es, rfl, hr, z, l⟩ := dict_at r2 m e1
  obtain ⟨key, rfl⟩ := isKb_ex e2
  obtain rfl := rep_kV r1
  obtain rfl : u = Value.ref p := ry
  refine d_in hu I (.inl ⟨es, key, hr, rfl, rfl⟩) rx fun s' I' => ?_
  rw [has_val l]
  exact ⟨.bl _, H, I', rfl, k _ _ M H (.refl H) (.bl _) m q⟩
theorem o_notinK (hu : X.A.units + 1 < cLine) : DOp X (compareOp .NotIn) dKNotIn := by
  intro pins s σ H x y v u Q I rx ry ⟨d, e, M, Q', r1, r2, m, ⟨kvs, e1, e2, q⟩, k⟩
  obtain ⟨p, es, rfl, hr, z, l⟩ := dict_at r2 m e1
  obtain ⟨key, rfl⟩ := isKb_ex e2
  obtain rfl := rep_kV r1
  obtain rfl : u = Value.ref p := ry
  refine d_notIn hu I (.inl ⟨es, key, hr, rfl, rfl⟩) rx fun s' I' => ?_
  rw [has_val l]
  exact ⟨.bl _, H, I', rfl, k _ _ M H (.refl H) (.bl _) m q⟩
/-! ### len(d) -/
def rLenK : DCR := fun ds M Q => ∃ d kvs, ds = [d] ∧ dDict d M = some kvs ∧ Q (.int kvs.length) M
theorem c_lenK : DCall X (.builtin "len") rLenK := by
  intro pins s σ H vs us Q I r ⟨ds, M, Q', l, m, ⟨d, kvs, e, h, q⟩, k⟩
  subst e
  obtain ⟨v, e, rv⟩ := repL_one l
  subst e
  obtain ⟨p, es, rfl, hr, z, l2⟩ := dict_at rv m h
  obtain ⟨u, eu, rx⟩ := vals1 r
  subst eu
  obtain rfl : u = Value.ref p := rx
  refine d_len I hr fun t s' I' => ⟨.int es.length, H, I', ⟨t, rfl⟩, ?_⟩
  rw [← l2.length]
  exact k _ _ M H (.refl H) (.int _) m q
/-! ### {}, freezing -/
def dKNew : DTE := fun _ M Q => ∀ p, M p = none → Q (.ref p) (mput M p (.dk []))
theorem d_knew : DE X (.Dict [] [] pos) dKNew :=
  imE pe_dnewK fun σ H Q ⟨m, M, Q', r, q, kk⟩ p hp => kk _ _ _ _ (.new hp) (.ref p) (r.mem.newDk hp (Nat.zero_le _) .nil) (q p (r.mem.free hp))
theorem inv_frzD {pins : List (Addr × Obj)} {σ : SL} {H : Hp} {s : Shared} {p : Addr} {es : List (Key × V)} (I : Inv X pins σ H s) (h : H p = some (.dK es)) : ∃ ob, Inv X pins σ (upd H p (.frz ob (.dK es))) s := I.lock h True.intro
def tFzK (t : TE) : TE := fun σ H Q => t σ H fun v H1 => ∃ p es, v = .ref p ∧ H1 p = some (.dK es) ∧ ∀ ob, Q v (upd H1 p (.frz ob (.dK es)))
theorem pe_fzK {t : TE} (h : PE X e t) : PE X e (tFzK t) := by
  refine ⟨fun pins s σ H Q I q => thn (h.run pins s σ H _ I q) fun u s1 ⟨v, H1, I1, r1, p, es, e1, e2, q1⟩ => ?_⟩
  obtain ⟨ob, I2⟩ := inv_frzD I1 e2
  exact ⟨v, _, I2, r1, q1 ob⟩
/-- the dict that comes is frozen -/
def dFzK (t : DTE) : DTE := fun m M Q => t m M fun d M1 => ∃ p kvs, d = .ref p ∧ M1 p = some (.dk kvs) ∧ Q (.dct kvs) (mdel M1 p)
theorem d_fzK (h : DE X e te) : DE X e (dFzK te) :=
  imE (pe_fzK h) fun σ H Q ⟨m, M, Q', r, q, k⟩ => by
    refine ⟨m, M, _, r, q, fun d v M1 H1 g1 r1 m1 ⟨p, kvs, e1, e2, q1⟩ => ?_⟩
    subst e1
    cases r1
    obtain ⟨es, h1, z, l⟩ := m1.dk e2
    exact ⟨p, es, rfl, h1, fun ob => k _ _ _ _ (g1.trans (.dk h1)) (.dct upd_same z (l.grow (.dk h1))) (m1.frzDk h1) q1⟩
/-! ### d[k] = v -/
def dKPut (to te tv : DTE) : DTS := fun Z m M => tv m M fun v M1 => to m M1 fun x M2 => te m M2 fun y M3 => ∃ p kvs, x = .ref p ∧ M3 p = some (.dk kvs) ∧ isKb y = true ∧ kvs.length < sizeLine ∧ Z.nx m (mput M3 p (.dk (dput kvs y v)))
theorem ds_kput {value : Expr} {spos : Pos} {tv : DTE} (hu : X.A.units + 1 < cLine) (hv : DE X value tv) (ho : DE X o to) (he : DE X e te) (hs : swapsWith value (some (.Subscript o e pos)) spos.line X.env = pure false := by rfl) : DS X (.Assign [.Subscript o e pos] value spos) (dKPut to te tv) :=
  imS (ps_dput hu ho he hv hs) fun Z σ H ⟨m, M, Z', r, q, k⟩ => by
    refine ⟨m, M, _, r, q, fun v v0 M1 H1 g1 r1 m1 q1 => ⟨m, M1, _, r.grow g1 m1, q1, fun x v1 M2 H2 g2 r2 m2 q2 => ⟨m, M2, _, (r.grow g1 m1).grow g2 m2, q2, fun y v2 M3 H3 g3 r3 m3 ⟨p, kvs, e1, e2, e3, e4, q3⟩ => ?_⟩⟩⟩
    subst e1
    cases r2
    obtain ⟨es, h3, z, l⟩ := m3.dk e2
    obtain ⟨key, rfl⟩ := isKb_ex e3
    obtain rfl := rep_kV r3
    have hlen : es.length < sizeLine := by rw [← l.length]; exact e4
    have hz : (putK es key v0).length ≤ sizeLine := by have := length_putK es key v0; omega
    have g4 : Grow H3 (upd H3 p (.dK (putK es key v0))) := Grow.dk h3
    exact ⟨p, _, rfl, .inl ⟨es, key, h3, rfl, hlen, rfl⟩, k.nx _ _ _ _ (((g1.trans g2).trans g3).trans g4) (((r.grow g1 m1).grow g2 m2).grow (g3.trans g4) (m3.putDk h3 hz (l.put ((r1.grow g2).grow g3)))) q3⟩
end
end DL
/-! dicts whose keys are ints and texts: walked, by comprehension, get, setdefault, list -/
namespace DL
open PySem PySem.Spec PyProof.Rows L2
section
variable {K : PySem.W.Frag} {H : Hp}
theorem RepK.get' : ∀ {kvs : List (D × D)} {es : List (Key × V)} {i : Nat} {k : Key} {v : V}, RepK K H kvs es → es[i]? = some (k, v) → (kvs.map (·.1))[i]? = some (kD k) := fun {kvs es i k v} l e => by
  obtain ⟨d, h1, _⟩ := l.get e
  rw [List.getElem?_map, h1]
  rfl
/-- what is walked stays: frozen -/
theorem frz_ok {H0 H : Hp} {a : Addr} {ob : Obj} {es : List (Key × V)} (h : H0 a = some (.frz ob (.dK es))) (g : Grow H0 H) : H a = some (.frz ob (.dK es)) := g.frzs _ _ _ h
theorem stream_keys {a : Addr} {ob : Obj} {kvs : List (D × D)} {es : List (Key × V)} (h : H a = some (.frz ob (.dK es))) (hz : es.length ≤ sizeLine) (l : RepK K H kvs es) : Stream K (Itk a ob es) (kvs.map (·.1), none) H := by
  have hl : (kvs.map (·.1)).length = es.length := by rw [List.length_map, l.length]
  refine ⟨by show (kvs.map (·.1)).length ≤ sizeLine; rw [hl]; exact hz, fun i H1 ok hi => ⟨frz_ok h ok.1, ?_⟩, fun i H1 x H2 ok hi y => ?_, fun H1 ok => ⟨frz_ok h ok.1, ?_⟩⟩
  · rw [← hl]; exact hi
  · obtain ⟨e1, k, v, e2, e3⟩ := y
    subst e1
    subst e3
    exact ⟨.refl _, fun _ q => q, kD k, l.get' e2, rep_kD k⟩
  · show es.length ≤ (kvs.map (·.1)).length
    omega
theorem stream_vals {a : Addr} {ob : Obj} {kvs : List (D × D)} {es : List (Key × V)} (h : H a = some (.frz ob (.dK es))) (hz : es.length ≤ sizeLine) (l : RepK K H kvs es) : Stream K (Itd a ob es) (kvs.map (·.2), none) H := by
  have hl : (kvs.map (·.2)).length = es.length := by rw [List.length_map, l.length]
  refine ⟨by show (kvs.map (·.2)).length ≤ sizeLine; rw [hl]; exact hz, fun i H1 ok hi => ⟨frz_ok h ok.1, ?_⟩, fun i H1 x H2 ok hi y => ?_, fun H1 ok => ⟨frz_ok h ok.1, ?_⟩⟩
  · rw [← hl]; exact hi
  · obtain ⟨e1, k, e2⟩ := y
    subst e1
    obtain ⟨d, h1, h2⟩ := l.get e2
    exact ⟨.refl _, fun _ q => q, d, by rw [List.getElem?_map, h1]; rfl, h2.grow ok.1⟩
  · show es.length ≤ (kvs.map (·.2)).length
    omega
def pairD (p : D × D) : D := .tup [p.1, p.2]
theorem stream_items {a : Addr} {ob : Obj} {kvs : List (D × D)} {es : List (Key × V)} (h : H a = some (.frz ob (.dK es))) (hz : es.length ≤ sizeLine) (l : RepK K H kvs es) : Stream K (Iti a ob es) (kvs.map pairD, none) H := by
  have hl : (kvs.map pairD).length = es.length := by rw [List.length_map, l.length]
  refine ⟨by show (kvs.map pairD).length ≤ sizeLine; rw [hl]; exact hz, fun i H1 ok hi => ⟨frz_ok h ok.1, ?_⟩, fun i H1 x H2 ok hi y => ?_, fun H1 ok => ⟨frz_ok h ok.1, ?_⟩⟩
  · rw [← hl]; exact hi
  · obtain ⟨T, k, v, e2, e3, e4, e5⟩ := y
    subst e3
    subst e5
    obtain ⟨d, h1, h2⟩ := l.get e2
    refine ⟨.new e4, fun _ q => q.new e4, pairD (kD k, d), by rw [List.getElem?_map, h1]; rfl, ?_⟩
    exact .tup (.of upd_same) (by show 2 ≤ sizeLine; rw [sizeLine_eq]; omega) (.cons (rep_kD k) (.cons ((h2.grow ok.1).grow (.new e4)) .nil))
  · show es.length ≤ (kvs.map pairD).length
    omega
end
section
variable {X : Cx} {tg e o f : Expr} {te to tf : DTE} {pos apos cpos : Pos}
def diKeys (te : DTE) : DTI := fun m M Q => te m M fun d M1 => ∃ kvs, d = .dct kvs ∧ Q (kvs.map (·.1), none) M1
def diVals (te : DTE) : DTI := fun m M Q => te m M fun d M1 => ∃ kvs, d = .dct kvs ∧ Q (kvs.map (·.2), none) M1
def diItems (te : DTE) : DTI := fun m M Q => te m M fun d M1 => ∃ kvs, d = .dct kvs ∧ Q (kvs.map pairD, none) M1
theorem di_keys (he : DE X e te) : DI X tg e (diKeys te) :=
  imI (pi_keys he) fun σ H Q ⟨m, M, Q', r, q, k⟩ => by
    refine ⟨m, M, _, r, q, fun d v M1 H1 g1 r1 m1 ⟨kvs, e, q1⟩ => ?_⟩
    subst e
    cases r1 with
    | dct h z l => exact ⟨_, _, rfl, .inl ⟨_, h, k _ M1 H1 _ g1 m1 q1 (stream_keys h z l)⟩⟩
theorem di_keysM (he : DE X e te) (hbase : attributeBase e "keys" X.env (eval e X.env) = eval e X.env := by rfl) (hline : (apos.endLine == cpos.line) = true := by rfl) : DI X tg (.Call (.Attribute e "keys" apos) [] [] cpos) (diKeys te) :=
  imI (pi_keysM he hbase hline) fun σ H Q ⟨m, M, Q', r, q, k⟩ => by
    refine ⟨m, M, _, r, q, fun d v M1 H1 g1 r1 m1 ⟨kvs, e, q1⟩ => ?_⟩
    subst e
    cases r1 with
    | dct h z l => exact ⟨_, _, _, rfl, h, k _ M1 H1 _ g1 m1 q1 (stream_keys h z l)⟩
theorem di_vals (he : DE X e te) (hbase : attributeBase e "values" X.env (eval e X.env) = eval e X.env := by rfl) (hline : (apos.endLine == cpos.line) = true := by rfl) : DI X tg (.Call (.Attribute e "values" apos) [] [] cpos) (diVals te) :=
  imI (pi_values he hbase hline) fun σ H Q ⟨m, M, Q', r, q, k⟩ => by
    refine ⟨m, M, _, r, q, fun d v M1 H1 g1 r1 m1 ⟨kvs, e, q1⟩ => ?_⟩
    subst e
    cases r1 with
    | dct h z l => exact ⟨_, _, _, rfl, h, k _ M1 H1 _ g1 m1 q1 (stream_vals h z l)⟩
theorem di_items {elts : List Expr} {kk : Nat} {tpos : Pos} (he : DE X e te) (hbase : attributeBase e "items" X.env (eval e X.env) = eval e X.env := by rfl) (hline : (apos.endLine == cpos.line) = true := by rfl) :
    DI X (.Tuple elts kk tpos) (.Call (.Attribute e "items" apos) [] [] cpos) (diItems te) :=
  imI (pi_items he hbase hline) fun σ H Q ⟨m, M, Q', r, q, k⟩ => by
    refine ⟨m, M, _, r, q, fun d v M1 H1 g1 r1 m1 ⟨kvs, e, q1⟩ => ?_⟩
    subst e
    cases r1 with
    | dct h z l => exact ⟨_, _, _, rfl, h, k _ M1 H1 _ g1 m1 q1 (stream_items h z l)⟩
/-- the dict in the slot i is frozen ahead of the statement -/
def dFzD (i : Nat) (t : DTS) : DTS := fun Z m M => ∃ p kvs, m[i]? = some (some (.ref p)) ∧ M p = some (.dk kvs) ∧ t Z (m.set i (some (.dct kvs))) (mdel M p)
theorem ds_fzD {st : Stmt} {t : DTS} (i : Nat) (h : DS X st t) : DS X st (dFzD i t) := by
  refine ⟨fun pins s σ H Z I ⟨m, M, Z', r, ⟨p, kvs, e1, e2, q⟩, k⟩ => ?_⟩
  obtain ⟨v, hv, rv⟩ := r.slot i _ e1
  cases rv
  obtain ⟨es, h1, z, l⟩ := r.mem.dk e2
  obtain ⟨ob, I2⟩ := inv_frzD I h1
  have g : Grow H (upd H p (.frz ob (.dK es))) := Grow.dk h1
  have r2 : R X.K m (mdel M p) σ (upd H p (.frz ob (.dK es))) := r.grow g (r.mem.frzDk h1)
  have r3 := r2.set (i := i) (d := .dct kvs) (v := .ref p) (.dct upd_same z (l.grow g))
  have es' : σ.set i (some (V.ref p)) = σ := by
    refine List.ext_getElem? fun j => ?_
    by_cases c : i = j
    · subst c
      by_cases hi : i < σ.length
      · rw [List.getElem?_set_self hi, hv]
      · rw [List.getElem?_eq_none (by omega)] at hv
        cases hv
    · rw [List.getElem?_set_ne c]
  rw [es'] at r3
  exact h.run pins s σ _ Z I2 ⟨_, _, Z', r3, q, k.grow g⟩
/-! ### d.get(k), d.get(k, x) -/
theorem dict_is {K : PySem.W.Frag} {H : Hp} {a : Addr} {es : List (Key × V)} (h : Rd H a (.dK es)) : IsD H a := .inl ⟨es, h⟩
def dKGet1 (to te : DTE) : DTE := fun m M Q => to m M fun x M1 => (∃ kvs, dDict x M1 = some kvs) ∧ te m M1 fun y M2 => ∃ kvs, dDict x M2 = some kvs ∧ isKb y = true ∧ Q ((dget kvs y).getD .non) M2
theorem d_kget1 (hu : X.A.units + 1 < cLine) (ho : DE X o to) (he : DE X e te) (m : M1 X o "get" apos e cpos := by exact ⟨by rfl, by rfl, by rfl, by rfl⟩) : DE X (.Call (.Attribute o "get" apos) [e] [] cpos) (dKGet1 to te) :=
  imE (pe_dget1 hu ho he m) fun σ H Q ⟨m, M, Q', r, q, kk⟩ => by
    refine ⟨m, M, _, r, q, fun x v1 M1 H1 g1 r1 m1 ⟨⟨kvs0, e0⟩, q1⟩ => ?_⟩
    obtain ⟨p, es0, rfl, hr0, _, _⟩ := dict_at r1 m1 e0
    refine ⟨p, rfl, .inl ⟨_, hr0⟩, m, M1, _, r.grow g1 m1, q1, fun y v2 M2 H2 g2 r2 m2 ⟨kvs, e1, e2, q2⟩ => ?_⟩
    obtain ⟨p', es, e3, hr, z, l⟩ := dict_at (r1.grow g2) m2 e1
    cases e3
    obtain ⟨k, rfl⟩ := isKb_ex e2
    obtain rfl := rep_kV r2
    refine ⟨valV es k, .inl ⟨es, k, hr, rfl, rfl⟩, ?_⟩
    rcases l.val (k := k) with ⟨n1, n2⟩ | ⟨d, y, n1, n2, rd⟩
    · rw [n1] at q2
      rw [n2]
      exact kk _ _ M2 H2 (g1.trans g2) .non m2 q2
    · rw [n1] at q2
      rw [n2]
      exact kk _ _ M2 H2 (g1.trans g2) rd m2 q2
def dKGet2 (to te tf : DTE) : DTE := fun m M Q => to m M fun x M1 => (∃ kvs, dDict x M1 = some kvs) ∧ te m M1 fun y M2 => tf m M2 fun z M3 => ∃ kvs, dDict x M3 = some kvs ∧ isKb y = true ∧ Q ((dget kvs y).getD z) M3
theorem d_kget2 (hu : X.A.units + 1 < cLine) (ho : DE X o to) (he : DE X e te) (hf : DE X f tf) (m : M2 X o "get" apos e f cpos := by exact ⟨by rfl, by rfl, by rfl, by rfl⟩) : DE X (.Call (.Attribute o "get" apos) [e, f] [] cpos) (dKGet2 to te tf) :=
  imE (pe_dget2 hu ho he hf m) fun σ H Q ⟨m, M, Q', r, q, kk⟩ => by
    refine ⟨m, M, _, r, q, fun x v1 M1 H1 g1 r1 m1 ⟨⟨kvs0, e0⟩, q1⟩ => ?_⟩
    obtain ⟨p, es0, rfl, hr0, _, _⟩ := dict_at r1 m1 e0
    refine ⟨p, rfl, .inl ⟨_, hr0⟩, m, M1, _, r.grow g1 m1, q1, fun y v2 M2 H2 g2 r2 m2 q2 => ?_⟩
    refine ⟨m, M2, _, (r.grow g1 m1).grow g2 m2, q2, fun w v3 M3 H3 g3 r3 m3 ⟨kvs, e1, e2, q3⟩ => ?_⟩
    obtain ⟨p', es, e3, hr, z, l⟩ := dict_at ((r1.grow g2).grow g3) m3 e1
    cases e3
    obtain ⟨k, rfl⟩ := isKb_ex e2
    obtain rfl := rep_kV r2
    refine ⟨valV es k, .inl ⟨es, k, hr, rfl, rfl⟩, ?_⟩
    rcases l.val (k := k) with ⟨n1, n2⟩ | ⟨d, y, n1, n2, rd⟩
    · rw [n1] at q3
      rw [n2]
      exact kk _ _ M3 H3 ((g1.trans g2).trans g3) r3 m3 q3
    · rw [n1] at q3
      rw [n2]
      exact kk _ _ M3 H3 ((g1.trans g2).trans g3) rd m3 q3
end
/-! ### {k: v for ..} -/
def dKcGo (src : Src) (g : DTG) (tt : DTT) (tk tv : DTE) (m0 : DSt) (p : Addr) (Qd : List (D × D) → DM → Prop) : List D → List (D × D) → DM → Prop
  | [], acc, M => SrcV src M ∧ Qd acc M
  | d :: ds, acc, M => SrcV src M ∧ g d m0 M fun m1 M1 => tt m1 M1 fun b M2 =>
      if b = true then tk m1 M2 fun k M3 => tv m1 M3 fun v M4 => M4 p = some (.dk acc) ∧ isKb k = true ∧ dKcGo src g tt tk tv m0 p Qd ds (dput acc k v) (mput M4 p (.dk (dput acc k v)))
      else M2 p = some (.dk acc) ∧ dKcGo src g tt tk tv m0 p Qd ds acc M2
def dKc (t : DTI) (g : DTG) (tt : DTT) (tk tv : DTE) (vs : List Nat) : DTE := fun m M Q => t m M fun src M1 => src.1.length ≤ sizeLine → ∀ p, M1 p = none → dKcGo src g tt tk tv (dwipe m vs) p (fun _ M2 => Q (.ref p) M2) src.1 [] (mput M1 p (.dk []))
section
variable {X : Cx} {kx vx tg iter : Expr} {ifs : List Expr} {scope : Scope} {own : List (Str × Nat)} {pos : Pos} {t : DTI} {g : DTG} {tt : DTT} {tk tv : DTE} {ws : List Nat}
theorem kc_up {σ : SL} {H : Hp} {m : DSt} {M : DM} {Qv : VK} {Qf : Addr → DM → Prop} (hsub : ∀ i ∈ ws, i ∈ own.map (·.2)) (r : R X.K m M σ H)
    (q : t m M fun src M1 => src.1.length ≤ sizeLine → ∀ p, M1 p = none → dKcGo src g tt tk tv (dwipe m (own.map (·.2))) p (fun _ M2 => Qf p M2) src.1 [] (mput M1 p (.dk [])))
    (k : ∀ p M2 H2, Grow H H2 → RM X.K H2 M2 → Qf p M2 → Qv (.ref p) H2) : tDc (upI X.K t) (upG X.K ws g) (upT X.K tt) (upE X.K tk) (upE X.K tv) (own.map (·.2)) σ H Qv := by
  refine ⟨m, M, _, r, q, fun src M1 H1 J g1 m1 q1 st p np => ?_⟩
  have q2 := q1 st.small p (m1.free np)
  have g2 : Grow H1 (upd H1 p (.dK [])) := .new np
  refine ⟨fun i n H2 => i + n = src.1.length ∧ Grow H1 H2 ∧ ∃ acc M2, acc.length ≤ i ∧ M2 p = some (.dk acc) ∧ RM X.K H2 M2 ∧ dKcGo src g tt tk tv (dwipe m (own.map (·.2))) p (fun _ M2 => Qf p M2) (src.1.drop i) acc M2,
    ⟨src.1.length, by omega, g2, [], _, Nat.le_refl _, mput_same, m1.newDk np (Nat.zero_le _) .nil, q2⟩, ?_⟩
  rintro i n H2 ⟨hl, g3, acc, M2, ha, hp, m2, q3⟩
  have r2 : R X.K (dwipe m (own.map (·.2))) M2 (wipe σ (own.map (·.2))) H2 := (r.wipe _).grow (g1.trans g3) m2
  by_cases hlt : i < src.1.length
  · rw [List.drop_eq_getElem_cons hlt] at q3
    obtain ⟨sv, q3⟩ := q3
    have so := sv.ok g3 m2
    refine .inr ⟨st.go i H2 so hlt, fun H3 => Grow H1 H3 ∧ ∃ acc M2, acc.length ≤ i + 1 ∧ M2 p = some (.dk acc) ∧ RM X.K H3 M2 ∧ dKcGo src g tt tk tv (dwipe m (own.map (·.2))) p (fun _ M2 => Qf p M2) (src.1.drop (i + 1)) acc M2,
      fun H3 ⟨g4, z⟩ => ⟨n - 1, by omega, by omega, g4, z⟩, fun x H3 y => ?_⟩
    obtain ⟨g4, k4, d, e4, rd⟩ := st.yld i H2 x H3 so hlt y
    have ed : d = src.1[i] := by
      rw [List.getElem?_eq_getElem hlt] at e4
      exact (Option.some.inj e4).symm
    subst ed
    refine ⟨_, _, M2, _, rd, r2.grow g4 (k4 _ m2), q3, fun m5 M5 σ5 H5 g5 r5 o5 q5 => ⟨wipe_off o5 hsub, ?_⟩⟩
    refine ⟨m5, M5, _, r5, q5, fun b M6 H6 g6 m6 q6 => ?_⟩
    have g06 : Grow H1 H6 := ((g3.trans g4).trans g5).trans g6
    cases b with
    | true =>
      refine ⟨m5, M6, _, r5.grow g6 m6, q6, fun kd kv M7 H7 g7 rk m7 q7 => ?_⟩
      refine ⟨m5, M7, _, (r5.grow g6 m6).grow g7 m7, q7, fun vd vv M8 H8 g8 rv m8 ⟨e8, hk, q8⟩ => ?_⟩
      obtain ⟨key, rfl⟩ := isKb_ex hk
      obtain rfl := rep_kV rk
      obtain ⟨es, h8, hz8, rkv⟩ := m8.dk e8
      have hlen : es.length < sizeLine := by
        rw [← rkv.length]
        exact Nat.lt_of_le_of_lt ha (Nat.lt_of_lt_of_le hlt st.small)
      have hz9 : (putK es key vv).length ≤ sizeLine := by have := length_putK es key vv; omega
      have ge : Grow H8 (upd H8 p (.dK (putK es key vv))) := Grow.dk h8
      exact ⟨es, key, rfl, h8, hlen, ((g06.trans g7).trans g8).trans ge, dput acc (kD key) vd, _, Nat.le_trans (dput_len ..) (Nat.succ_le_succ ha), mput_same, m8.putDk h8 hz9 (rkv.put rv), q8⟩
    | false =>
      have q6' : M6 p = some (.dk acc) ∧ dKcGo src g tt tk tv (dwipe m (own.map (·.2))) p (fun _ M2 => Qf p M2) (src.1.drop (i + 1)) acc M6 := q6
      exact ⟨g06, acc, M6, by omega, q6'.1, m6, q6'.2⟩
  · have e : i = src.1.length := by omega
    subst e
    rw [List.drop_length] at q3
    exact .inl ⟨st.stop H2 (q3.1.ok g3 m2), k _ M2 H2 (g1.trans g3) m2 q3.2⟩
theorem d_kc (hc : X.calm = true) (hN : X.N.Nodup) (hi : DI X tg iter t) (ok : BlkOk X.N X.env.scope scope own) (hsub : ∀ i ∈ ws, i ∈ own.map (·.2))
    (hg : ∀ (s : Shared) (H : Hp) (C : Addr) (cl : List (Str × Addr)) (fp : List Addr), DG (X.blk s H scope (compEnvC scope cl C X.env) fp) ws tg g)
    (ht : ∀ (s : Shared) (H : Hp) (C : Addr) (cl : List (Str × Addr)) (fp : List Addr), DPTs (X.blk s H scope (compEnvC scope cl C X.env) fp) ifs tt)
    (hk : ∀ (s : Shared) (H : Hp) (C : Addr) (cl : List (Str × Addr)) (fp : List Addr), DE (X.blk s H scope (compEnvC scope cl C X.env) fp) kx tk)
    (hv : ∀ (s : Shared) (H : Hp) (C : Addr) (cl : List (Str × Addr)) (fp : List Addr), DE (X.blk s H scope (compEnvC scope cl C X.env) fp) vx tv)
    (hs : ∀ x, foldedSetIterable iter X.env x = pure x := by intro _; rfl) : DE X (.DictComp kx vx [⟨tg, iter, ifs, 0⟩] scope pos) (dKc t g tt tk tv (own.map (·.2))) :=
  imE (pe_dc (wi := upI X.K t) (g := upG X.K ws g) (tt := upT X.K tt) (tk := upE X.K tk) (tv := upE X.K tv) hc hN hi ok hg ht hk hv hs) fun σ H Q ⟨m, M, Q', r, q, k⟩ =>
    kc_up hsub r q fun p M2 H2 g2 m2 q2 => k _ _ M2 H2 g2 (.ref p) m2 q2
theorem ps_setKc {i : Nat} {y : Str} {py spos : Pos} {wi : TI} {g : TG} {tt : TT} {tk tv : TE} (hc : X.calm = true) (hN : X.N.Nodup) (hy : X.N[i]? = some y) (hyl : X.env.scope.names.lookup y = some .local)
    (hsw : swapsWith (.DictComp kx vx [⟨tg, iter, ifs, 0⟩] scope pos) (some (.Name y py)) spos.line X.env = pure true) (hi : PI X tg iter wi) (ok : BlkOk X.N X.env.scope scope own)
    (pg : ∀ (s : Shared) (H : Hp) (C : Addr) (cl : List (Str × Addr)) (fp : List Addr), PG (X.blk s H scope (compEnvC scope cl C X.env) fp) tg g)
    (pt : ∀ (s : Shared) (H : Hp) (C : Addr) (cl : List (Str × Addr)) (fp : List Addr), PTs (X.blk s H scope (compEnvC scope cl C X.env) fp) ifs tt)
    (pk : ∀ (s : Shared) (H : Hp) (C : Addr) (cl : List (Str × Addr)) (fp : List Addr), PE (X.blk s H scope (compEnvC scope cl C X.env) fp) kx tk)
    (pv : ∀ (s : Shared) (H : Hp) (C : Addr) (cl : List (Str × Addr)) (fp : List Addr), PE (X.blk s H scope (compEnvC scope cl C X.env) fp) vx tv) (hs : ∀ x, foldedSetIterable iter X.env x = pure x := by intro _; rfl) :
    PS X (.Assign [.Name y py] (.DictComp kx vx [⟨tg, iter, ifs, 0⟩] scope pos) spos) (tAsg (tDc wi g tt tk tv (own.map (·.2))) (gName i)) := by
  refine ⟨fun pins s σ H D I h => ?_⟩
  rw [exec_Assign_Name_used _ _ _ _ hsw]
  refine wpAny_bind (wpAny_standAt (wpAny_bind ?_))
  show wpAny _ X.A (do let _ ← comprehension (.DictComp kx vx [⟨tg, iter, ifs, 0⟩] scope pos) scope X.env (firstIterPos [⟨tg, iter, ifs, 0⟩] pos) newDict false (eval iter X.env) (some (assign (.Name y py) X.env))) _ _ s
  have h : tDc wi g tt tk tv (own.map (·.2)) σ H (fun x H1 => gName i x σ H1 D.nx) := h
  refine wpAny_bind (thn (L2.dc_core (Qf := fun _ s' => SP X pins D .next s') hc hN I hi ok pg pt pk pv hs h fun L C s' m H' I' q hn f => ?_) fun _ s' hq => wpAny_pure (wpAny_pure hq))
  show wpAny _ _ (assign (.Name y py) X.env (.ref L)) _ _ _
  refine wpAny_assign_Name (store_ok2 (v := V.ref L) I' hN hy (.inl hyl) rfl (fun s2 I2 ⟨a, sb, ha⟩ => ?_) (.inr hyl))
  obtain ⟨f0, f1, f2, f3, f4, f5⟩ := f
  have haC : C ≠ a := by
    rcases ha with z | z
    · rw [z]; exact f1
    · exact fun e => f4 y a z e.symm
  refine ⟨m, hn.sameBut sb haC, fun h3 sb3 => ?_⟩
  exact ⟨_, H', I2.turned (t' := s2.toks) (fun b o hb e => (sb3.2 b hb).trans e) f0 f1 f3 f4 f5, q⟩
/-- name = {.. for ..} on one line -/
theorem ds_setKc {y : Str} {py spos : Pos} {i : Nat} (hc : X.calm = true) (hN : X.N.Nodup) (hy : X.N[i]? = some y) (hyl : X.env.scope.names.lookup y = some .local)
    (hsw : swapsWith (.DictComp kx vx [⟨tg, iter, ifs, 0⟩] scope pos) (some (.Name y py)) spos.line X.env = pure true) (hi : DI X tg iter t) (ok : BlkOk X.N X.env.scope scope own) (hsub : ∀ i ∈ ws, i ∈ own.map (·.2))
    (hg : ∀ (s : Shared) (H : Hp) (C : Addr) (cl : List (Str × Addr)) (fp : List Addr), DG (X.blk s H scope (compEnvC scope cl C X.env) fp) ws tg g)
    (ht : ∀ (s : Shared) (H : Hp) (C : Addr) (cl : List (Str × Addr)) (fp : List Addr), DPTs (X.blk s H scope (compEnvC scope cl C X.env) fp) ifs tt)
    (hk : ∀ (s : Shared) (H : Hp) (C : Addr) (cl : List (Str × Addr)) (fp : List Addr), DE (X.blk s H scope (compEnvC scope cl C X.env) fp) kx tk)
    (hv : ∀ (s : Shared) (H : Hp) (C : Addr) (cl : List (Str × Addr)) (fp : List Addr), DE (X.blk s H scope (compEnvC scope cl C X.env) fp) vx tv)
    (hs : ∀ x, foldedSetIterable iter X.env x = pure x := by intro _; rfl) : DS X (.Assign [.Name y py] (.DictComp kx vx [⟨tg, iter, ifs, 0⟩] scope pos) spos) (dSet i (dKc t g tt tk tv (own.map (·.2)))) :=
  imS (ps_setKc (wi := upI X.K t) (g := upG X.K ws g) (tt := upT X.K tt) (tk := upE X.K tk) (tv := upE X.K tv) hc hN hy hyl hsw hi ok hg ht hk hv hs) fun Z σ H ⟨m, M, Z', r, q, k⟩ =>
    kc_up (Qf := fun p M2 => Z'.nx (m.set i (some (.ref p))) M2) hsub r q fun p M2 H2 g2 m2 q2 => k.nx _ M2 _ H2 g2 ((r.grow g2 m2).set (.ref p)) q2
end
theorem hu_1 {k : Nat} {A : Around} (hr : Room k A) : A.units + 1 < cLine := by
  have := hu_40 hr
  omega
/-- a comprehension over what is left, with what is gathered -/
theorem kc_ind {src : Src} {g : DTG} {tt : DTT} {tk tv : DTE} {m0 : DSt} {p : Addr} {Qd : List (D × D) → DM → Prop} (V : List D → List (D × D) → DM → Prop) (fin : ∀ acc M, V [] acc M → SrcV src M ∧ Qd acc M)
    (step : ∀ d ds acc M (Cn : List (D × D) → DM → Prop), (∀ acc' M', V ds acc' M' → Cn acc' M') → V (d :: ds) acc M → SrcV src M ∧ g d m0 M fun m1 M1 => tt m1 M1 fun b M2 =>
      if b = true then tk m1 M2 fun k M3 => tv m1 M3 fun v M4 => M4 p = some (.dk acc) ∧ isKb k = true ∧ Cn (dput acc k v) (mput M4 p (.dk (dput acc k v))) else M2 p = some (.dk acc) ∧ Cn acc M2) :
    ∀ ds acc M, V ds acc M → dKcGo src g tt tk tv m0 p Qd ds acc M
  | [], acc, M, h => fin acc M h
  | d :: ds, acc, M, h => step d ds acc M (dKcGo src g tt tk tv m0 p Qd ds) (kc_ind V fin step ds) h
end DL
/-! xs.insert(i, y), xs.pop(i), list of a dict -/
namespace DL
open PySem PySem.Spec PyProof.Rows L2
section
variable {X : Cx}
def mInsert : DMR := fun d ds M Q => ∃ (a : Addr) (xs : List D) (i : Int) (y : D), d = .ref a ∧ ds = [.int i, y] ∧ M a = some (.lst xs) ∧ xs.length < sizeLine ∧ 0 ≤ i ∧ i < 9223372036854775808 ∧ Q .non (mput M a (.lst (xs.take i.toNat ++ [y] ++ xs.drop i.toNat)))
theorem m_insert : MtR X "list.insert" (upM X.K mInsert) := by
  intro pins s σ H x vs v us Q I rx rv ⟨d, ds, M, Q', r1, l, m, ⟨a, xs, i, y, e1, e2, h, hz, h0, h9, q⟩, k⟩
  subst e1
  subst e2
  cases r1
  cases l with
  | cons ri l =>
    cases ri
    obtain ⟨w, rfl, rw'⟩ := repL_one l
    obtain ⟨ws, h1, z, l1⟩ := m.lst h
    have hl := l1.length
    refine mt_insert pins s σ H _ _ v us Q I rx rv ⟨a, ws, i, w, rfl, rfl, h1, by omega, h0, h9, ?_⟩
    have g : Grow H (upd H a (.lst (ws.take i.toNat ++ [w] ++ ws.drop i.toNat))) := .put h1
    refine k _ _ _ _ g .non (m.putLst h1 ?_ (((l1.take _).append (.one rw')).append (l1.drop _))) q
    rw [List.length_append, List.length_append, List.length_take, List.length_drop, List.length_singleton]
    omega
def mPopAt : DMR := fun d ds M Q => ∃ (a : Addr) (xs : List D) (i : Nat) (y : D), d = .ref a ∧ ds = [.int (i : Int)] ∧ M a = some (.lst xs) ∧ xs[i]? = some y ∧ Q y (mput M a (.lst (xs.eraseIdx i)))
theorem m_popAt : MtR X "list.pop" (upM X.K mPopAt) := by
  intro pins s σ H x vs v us Q I rx rv ⟨d, ds, M, Q', r1, l, m, ⟨a, xs, i, y, e1, e2, h, hy, q⟩, k⟩
  subst e1
  subst e2
  cases r1
  obtain ⟨w0, rfl, r0⟩ := repL_one l
  cases r0
  obtain ⟨ws, h1, z, l1⟩ := m.lst h
  obtain ⟨w, h2, h3⟩ := l1.get hy
  have hi : i < ws.length := by
    rcases Nat.lt_or_ge i ws.length with c | c
    · exact c
    · rw [List.getElem?_eq_none c] at h2
      cases h2
  have hsz : ws.length ≤ 16777216 := by rw [sizeLine_eq] at z; exact z
  have hk : seqIndex? (i : Int) ws.length = some i := by
    unfold seqIndex?
    simp
    omega
  have g : Grow H (upd H a (.lst (ws.eraseIdx i))) := .put h1
  refine mt_popAt pins s σ H _ _ v us Q I rx rv ⟨a, ws, i, i, w, rfl, rfl, h1, by omega, by omega, hk, h2, ?_⟩
  have hle : (ws.eraseIdx i).length ≤ ws.length := (List.length_eraseIdx_le ..)
  exact k _ _ _ _ g (h3.grow g) (m.putLst h1 (by omega) (l1.eraseIdx i)) q
end
end DL
/-! a comprehension each of whose items takes draws -/
namespace DL
open PySem PySem.Spec PyProof.Rows L2
theorem lc_draw {src : Src} {g : DTG} {te : DTE} {m0 : DSt} {Qd : Addr → List D → DM → Prop} {M : DM} {p : Addr} {o1 : DO} (P : D → Prop) (hsrc : src.2 = none) (ho : DrO o1)
    (step : ∀ d ∈ src.1, ∀ (r : Addr) (l : DO) (o : DO), p ≠ r → M r = none → DrO o → ∀ C1 : D → DM → Prop, (∀ o' y, DrO o' → P y → C1 y (mput (mput M p o') r l)) → g d m0 (mput (mput M p o) r l) fun m1 M1 => te m1 M1 C1)
    (fin : ∀ r o acc, p ≠ r → mput M p o r = none → DrO o → acc.length = src.1.length → (∀ y ∈ acc, P y) → Qd r acc (mput (mput M p o) r (.lst acc))) :
    ∀ r, mput M p o1 r = none → dLcGo src g dYes te m0 r (Qd r) src.1 [] (mput (mput M p o1) r (.lst [])) := fun r hr => by
  have hpr : p ≠ r := ne_of_fresh mput_same hr
  have hrM : M r = none := by rw [mput_ne hpr.symm] at hr; exact hr
  have key : ∀ (its : List D) (acc : List D) (o : DO), (∀ d ∈ its, d ∈ src.1) → DrO o → (∀ y ∈ acc, P y) → acc.length + its.length = src.1.length → dLcGo src g dYes te m0 r (Qd r) its acc (mput (mput M p o) r (.lst acc)) := by
    intro its
    induction its with
    | nil =>
      intro acc o _ ho ha hl
      refine ⟨fun a e => ?_, fin r o acc hpr (by rw [mput_ne hpr.symm]; exact hrM) ho (by simpa using hl) ha⟩
      rw [hsrc] at e
      cases e
    | cons d its ih =>
      intro acc o hs ho ha hl
      refine ⟨fun a e => (by rw [hsrc] at e; cases e), ?_⟩
      have z := step d (hs d (by simp)) r (.lst acc) o hpr hrM ho (fun y M3 => M3 r = some (.lst acc) ∧ dLcGo src g dYes te m0 r (Qd r) its (acc ++ [y]) (mput M3 r (.lst (acc ++ [y])))) fun o' y ho' hy => ⟨mput_same, by
        rw [mput_mput]
        refine ih _ o' (fun x hx => hs x (by simp [hx])) ho' (fun x hx => ?_) (by rw [List.length_append, List.length_singleton]; rw [List.length_cons] at hl; omega)
        rcases List.mem_append.mp hx with hx | hx
        · exact ha x hx
        · rw [List.mem_singleton.mp hx]
          exact hy⟩
      exact z
  exact key src.1 [] o1 (fun _ h => h) ho (by simp) (by simp)
def ar7 (p : D → D → D → D → D → D → D → DM → DVK → Prop) : DSp := fun ds M Q => ∃ a b c d e f g, ds = [a, b, c, d, e, f, g] ∧ p a b c d e f g M Q
def ar8 (p : D → D → D → D → D → D → D → D → DM → DVK → Prop) : DSp := fun ds M Q => ∃ a b c d e f g h, ds = [a, b, c, d, e, f, g, h] ∧ p a b c d e f g h M Q
theorem len7 {p} {ds : List D} {M : DM} {Q : DVK} (h : ar7 p ds M Q) : ds.length = 7 := by obtain ⟨_, _, _, _, _, _, _, rfl, _⟩ := h; rfl
theorem len8 {p} {ds : List D} {M : DM} {Q : DVK} (h : ar8 p ds M Q) : ds.length = 8 := by obtain ⟨_, _, _, _, _, _, _, _, rfl, _⟩ := h; rfl
theorem rangeD0 (n : Nat) : rangeD 0 n = (List.range n).map fun k => D.int ((k : Nat) : Int) := by simp [rangeD]
theorem rangeD_cons (lo : Int) (n : Nat) : rangeD lo (n + 1) = D.int lo :: rangeD (lo + 1) n := by
  simp only [rangeD, List.range_succ_eq_map, List.map_cons, List.map_map, Function.comp_def, Int.natCast_zero, Int.add_zero]
  congr 1
  refine List.map_congr_left fun i _ => ?_
  congr 1
  simp
  omega
theorem mem_rangeD {lo : Int} {n : Nat} {d : D} (h : d ∈ rangeD lo n) : ∃ i : Nat, i < n ∧ d = .int (lo + (i : Nat)) := by
  unfold rangeD at h
  obtain ⟨i, hi, rfl⟩ := List.mem_map.mp h
  exact ⟨i, List.mem_range.mp hi, rfl⟩
theorem rangeD_len (n : Int) : (rangeD 0 n.toNat).length = n.toNat := by simp [rangeD]
end DL
/-! DL31: dicts whose keys are tuples: d[k], k in d, d[k] = v, {}, len. -/
namespace DL
open PySem PySem.Spec PyProof.Rows L2
section
variable {X : Cx} {pos : Pos}
/-- d[k] -/
def dDIx (w : World) : DR2 := fun x y M Q => ∃ a kvs v, x = .ref a ∧ M a = some (.dct w kvs) ∧ isKey y ∧ dget kvs y = some v ∧ Q v M
theorem x_dix {w : World} (hw : X.w = w) (hu : X.A.units + 9 < cLine) : IxR X (upR2 X.K (dDIx w)) := by
  subst hw
  intro value slice pins s σ H x y v u Q I rx ry ⟨d, e, M, Q', r1, r2, m, ⟨a, kvs, v0, h1, h2, ⟨⟨ks, ek⟩, hok, hdp⟩, h3, q⟩, k⟩ hop
  subst h1
  subst ek
  cases r1
  obtain rfl : v = Value.ref a := rx
  cases r2 with
  | @tup _ b vs hf z l =>
    obtain rfl : u = Value.ref b := ry
    obtain ⟨es, g1, hz, rkv⟩ := m.dct h2
    obtain ⟨hs, xs, pr, dd⟩ := dict_of I g1 rkv
    have rk : Rep X.K H (.tup ks) (.ref b) := .tup hf z l
    rcases dget_at (k := .tup ks) rkv with ⟨n1, n2⟩ | ⟨d, y', n1, n2, rd⟩
    · rw [n1] at h3
      cases h3
    · rw [n1] at h3
      cases h3
      have ra := atV_at (k := nk (.tup ks)) pr
      rw [n2] at ra
      cases ha : atKey xs (nk (.tup ks)) with
      | none => rw [ha] at ra; exact ra.elim
      | some p =>
        rw [ha] at ra
        refine subscriptTail_builtinR (x := p.2) dd.typeIs PySem.F.slot_dict_getitem.lookup (wpAny_getItem_heap (knd := nestedKind X.prog X.w) (Q := fun r s' => r = p.2 ∧ EP X pins σ Q r s') ?_ ⟨Rep.nested I rk rfl hok, hdp⟩ dd ha ⟨rfl, y', H, I.tok _, ra, k _ _ M H (.refl H) rd m q⟩) hop
        show X.A.units + 1 + 8 < cLine
        omega
def dDIn (w : World) : DR2 := fun x y M Q => ∃ a kvs, y = .ref a ∧ M a = some (.dct w kvs) ∧ isKey x ∧ Q (.bl (dhas kvs x)) M
def dDNotIn (w : World) : DR2 := fun x y M Q => ∃ a kvs, y = .ref a ∧ M a = some (.dct w kvs) ∧ isKey x ∧ Q (.bl (!dhas kvs x)) M
theorem o_inD {w : World} (hw : X.w = w) (hu : X.A.units + 9 < cLine) : DOp X (compareOp .In) (dDIn w) := by
  subst hw
  intro pins s σ H x y v u Q I rx ry ⟨d, e, M, Q', r1, r2, m, ⟨a, kvs, h1, h2, ⟨⟨ks, ek⟩, hok, hdp⟩, q⟩, k⟩
  subst h1
  subst ek
  cases r2
  obtain rfl : u = Value.ref a := ry
  cases r1 with
  | @tup _ b vs hf z l =>
    obtain rfl : v = Value.ref b := rx
    obtain ⟨es, g1, hz, rkv⟩ := m.dct h2
    obtain ⟨hs, xs, pr, dd⟩ := dict_of I g1 rkv
    have rk : Rep X.K H (.tup ks) (.ref b) := .tup hf z l
    refine wpAny_in_heap (knd := nestedKind X.prog X.w) ?_ ⟨Rep.nested I rk rfl hok, hdp⟩ hs dd ?_
    · show X.A.units + 1 + 8 < cLine
      omega
    · rw [any_at pr, has_any rkv]
      exact ⟨.bl _, H, I.tok _, rfl, k _ _ M H (.refl H) (.bl _) m q⟩
theorem o_notinD {w : World} (hw : X.w = w) (hu : X.A.units + 9 < cLine) : DOp X (compareOp .NotIn) (dDNotIn w) := by
  subst hw
  intro pins s σ H x y v u Q I rx ry ⟨d, e, M, Q', r1, r2, m, ⟨a, kvs, h1, h2, ⟨⟨ks, ek⟩, hok, hdp⟩, q⟩, k⟩
  subst h1
  subst ek
  cases r2
  obtain rfl : u = Value.ref a := ry
  cases r1 with
  | @tup _ b vs hf z l =>
    obtain rfl : v = Value.ref b := rx
    obtain ⟨es, g1, hz, rkv⟩ := m.dct h2
    obtain ⟨hs, xs, pr, dd⟩ := dict_of I g1 rkv
    have rk : Rep X.K H (.tup ks) (.ref b) := .tup hf z l
    refine wpAny_notIn_heap (knd := nestedKind X.prog X.w) ?_ ⟨Rep.nested I rk rfl hok, hdp⟩ hs dd ?_
    · show X.A.units + 1 + 8 < cLine
      omega
    · rw [any_at pr, has_any rkv]
      exact ⟨.bl _, H, I.tok _, rfl, k _ _ M H (.refl H) (.bl _) m q⟩
/-- d[k] = v -/
def dSetD (w : World) : D → D → D → DM → (DM → Prop) → Prop := fun o i v M Q => ∃ a kvs, o = .ref a ∧ M a = some (.dct w kvs) ∧ isKey i ∧ (dput kvs i v).length ≤ sizeLine ∧ Q (mput M a (.dct w (dput kvs i v)))
theorem s_dct {w : World} (hw : X.w = w) (hu : X.A.units + 9 < cLine) : DSet X (dSetD w) := by
  subst hw
  intro pins s σ H o i v ov iv u Q I ro ri rv ⟨d, e, y, M, Q', r1, r2, r3, m, ⟨a, kvs, h1, h2, ⟨⟨ks, ek⟩, hok, hdp⟩, hsz, q⟩, k⟩
  subst h1
  subst ek
  cases r1
  obtain rfl : ov = Value.ref a := ro
  cases r2 with
  | @tup _ b vs hf z l =>
    obtain rfl : iv = Value.ref b := ri
    obtain ⟨es, g1, hz, rkv⟩ := m.dct h2
    obtain ⟨hs, xs, pr, dd⟩ := dict_of I g1 rkv
    have rk : Rep X.K H (.tup ks) (.ref b) := .tup hf z l
    have hl : xs.length ≤ sizeLine := by rw [← pr.length]; exact hz
    have rkv2 := rkv.store rk hok hdp r3
    refine wpAny_setItem_heap (knd := nestedKind X.prog X.w) (hsz := hl) ?_ ⟨Rep.nested I rk rfl hok, hdp⟩ dd fun h' dd' hsb => ?_
    · show X.A.units + 1 + 8 < cLine
      omega
    obtain ⟨o', _, _, ho', _⟩ := id dd'
    refine ⟨_, d_write I (by rw [g1]; exact True.intro) hsb ⟨o', ho'⟩ (dict_new hs (EsXs.store pr rv) dd'), k _ _ (.dct g1) (m.putDct g1 (by rw [← rkv2.len]; exact hsz) rkv2) q⟩
/-- {} -/
def dDNew (w : World) : DTE := fun _ M Q => ∀ p, M p = none → Q (.ref p) (mput M p (.dct w []))
theorem pe_dnewH {w : World} (hw : X.w = w) : PE X (.Dict [] [] pos) (fun _ H Q => ∀ p, H p = none → Q (.ref p) (upd H p (DictO w p []))) := by
  subst hw
  exact ⟨fun pins s σ H Q I h => wpAny_Dict_empty ⟨.ref s.heap.objs.size, _, I.laid (a := s.heap.objs.size) (o := DictO X.w s.heap.objs.size []) (t' := s.toks) (fun _ _ q => Heap.get?_push_of_some _ q) (Nat.le_refl _) (empty_dict s.heap I.big), rfl, h _ (I.hok.fresh (Nat.le_refl _))⟩⟩
theorem d_dnew {w : World} (hw : X.w = w) : DE X (.Dict [] [] pos) (dDNew w) :=
  imE (pe_dnewH hw) fun σ H Q ⟨m, M, Q', r, q, kk⟩ p hp => kk _ _ _ _ (.new hp) (.ref p) (r.mem.newDct hp) (q p (r.mem.free hp))
end
end DL
/-! DL32: a comprehension whose items take draws, item by item. -/
namespace DL
open PySem PySem.Spec PyProof.Rows L2
theorem lc_drawT {α β : Type} (f : α → D) (k : β → D) (R : α → β → Prop) {xs : List α} {src : Src} {g : DTG} {te : DTE} {m0 : DSt} {Qd : Addr → List D → DM → Prop} {M : DM} {p : Addr} {o1 : DO} (hx : src.1 = xs.map f) (hsrc : src.2 = none) (ho : DrO o1)
    (step : ∀ x ∈ xs, ∀ (r : Addr) (l : DO) (o : DO), p ≠ r → M r = none → DrO o → ∀ C1 : D → DM → Prop, (∀ o' y, DrO o' → R x y → C1 (k y) (mput (mput M p o') r l)) → g (f x) m0 (mput (mput M p o) r l) fun m1 M1 => te m1 M1 C1)
    (fin : ∀ r o ys, p ≠ r → mput M p o r = none → DrO o → Paired R xs ys → Qd r (ys.map k) (mput (mput M p o) r (.lst (ys.map k)))) :
    ∀ r, mput M p o1 r = none → dLcGo src g dYes te m0 r (Qd r) src.1 [] (mput (mput M p o1) r (.lst [])) := fun r hr => by
  have hpr : p ≠ r := ne_of_fresh mput_same hr
  have hrM : M r = none := by rw [mput_ne hpr.symm] at hr; exact hr
  have key : ∀ (rest dn : List α) (ys : List β) (o : DO), dn ++ rest = xs → DrO o → Paired R dn ys → dLcGo src g dYes te m0 r (Qd r) (rest.map f) (ys.map k) (mput (mput M p o) r (.lst (ys.map k))) := by
    intro rest
    induction rest with
    | nil =>
      intro dn ys o hd ho hp
      rw [List.append_nil] at hd
      subst hd
      refine ⟨fun a e => ?_, fin r o ys hpr (by rw [mput_ne hpr.symm]; exact hrM) ho hp⟩
      rw [hsrc] at e
      cases e
    | cons x rest ih =>
      intro dn ys o hd ho hp
      refine ⟨fun a e => (by rw [hsrc] at e; cases e), ?_⟩
      have z := step x (by rw [← hd]; simp) r (.lst (ys.map k)) o hpr hrM ho (fun y M3 => M3 r = some (.lst (ys.map k)) ∧ dLcGo src g dYes te m0 r (Qd r) (rest.map f) (ys.map k ++ [y]) (mput M3 r (.lst (ys.map k ++ [y])))) fun o' y ho' hy => ⟨mput_same, by
        rw [mput_mput]
        have e : ys.map k ++ [k y] = (ys ++ [y]).map k := by rw [List.map_append]; rfl
        rw [e]
        exact ih (dn ++ [x]) (ys ++ [y]) o' (by rw [← hd]; simp) ho' (hp.snoc hy)⟩
      exact z
  rw [hx]
  exact key xs [] [] o1 rfl ho .nil
theorem Paired.len {α β : Type} {R : α → β → Prop} : ∀ {xs : List α} {ys : List β}, Paired R xs ys → xs.length = ys.length
  | _, _, .nil => rfl
  | _, _, .cons _ t => congrArg (· + 1) (Paired.len t)
theorem Paired.mem_right {α β : Type} {R : α → β → Prop} : ∀ {xs : List α} {ys : List β}, Paired R xs ys → ∀ y ∈ ys, ∃ x ∈ xs, R x y
  | _, _, .nil, y, h => by cases h
  | _, _, .cons a t, y, h => by
    rcases List.mem_cons.mp h with rfl | h
    · exact ⟨_, by simp, a⟩
    · obtain ⟨x, h1, h2⟩ := Paired.mem_right t y h
      exact ⟨x, by simp [h1], h2⟩
theorem Paired.map_eq {α β γ : Type} {R : α → β → Prop} (f : α → γ) (g : β → γ) (h : ∀ x y, R x y → g y = f x) : ∀ {xs : List α} {ys : List β}, Paired R xs ys → ys.map g = xs.map f
  | _, _, .nil => rfl
  | _, _, .cons a t => by rw [List.map_cons, List.map_cons, h _ _ a, Paired.map_eq f g h t]
theorem srcV_it {a : D} {xs : List D} {M : DM} (h : dItems a M = some xs) : SrcV (xs, dAt a) M := by
  intro p hp
  cases a with
  | ref q =>
    have e : q = p := Option.some.inj hp
    subst e
    rw [dItems_rf] at h
    cases c : M q with
    | none => rw [c] at h; cases h
    | some o =>
      rw [c] at h
      cases o with
      | lst ys =>
        cases h
        rfl
      | _ => cases h
  | _ => cases hp
theorem items_up {M N : DM} {b : D} {xs : List D} (h : dItems b M = some xs) (l : MLe M N) : dItems b N = some xs := by
  cases b with
  | ref r =>
    cases q : M r with
    | none => simp [dItems, q] at h
    | some o =>
      cases o with
      | lst ys =>
        simp [dItems, q] at h
        exact dItems_ref (by rw [l _ _ q, h])
      | _ => simp [dItems, q] at h
  | _ => first | exact h | cases h
theorem range_gets {α β : Type} (f : α → β) (d : α) (l : List α) : (List.range l.length).map (fun k => f (l.getD k d)) = l.map f := by
  refine List.ext_getElem (by rw [List.length_map, List.length_range, List.length_map]) fun i h1 h2 => ?_
  rw [List.length_map, List.length_range] at h1
  rw [List.getElem_map, List.getElem_range, List.getElem_map]
  simp [List.getD_eq_getElem?_getD, List.getElem?_eq_getElem h1]
end DL
/-! DL33: the order of data; sorted(xs, key=len). -/
namespace DL
open PySem PySem.Spec PyProof.Rows L2
open PySem.W (dataLt dataLe keyToks alike)
/-! ### the order -/
def dlt (a b : D) : Bool := dataLt a.py b.py
theorem dlt_irr (a : D) : dlt a a = false := PySem.W.dataLt_self _
theorem dlt_trans {a b c : D} (h : dlt a b = true) (k : dlt b c = true) : dlt a c = true := lex_trans _ _ _ h k
theorem dlt_neg {a b c : D} (h : dlt a c = true) : dlt a b = true ∨ dlt b c = true := lex_negTrans _ _ _ h
theorem dlt_asym {a b : D} (h : dlt a b = true) : dlt b a = false := by
  cases e : dlt b a with
  | false => rfl
  | true =>
    have := dlt_trans h e
    rw [dlt_irr] at this
    cases this
/-- not less: transitive -/
theorem dle_trans {a b c : D} (h : dlt b a = false) (k : dlt c b = false) : dlt c a = false := by
  cases e : dlt c a with
  | false => rfl
  | true =>
    rcases dlt_neg (b := b) e with z | z
    · rw [k] at z
      cases z
    · rw [h] at z
      cases z
theorem dlt_le {a b c : D} (h : dlt a b = true) (k : dlt c b = false) : dlt a c = true := by
  rcases dlt_neg (b := c) h with z | z
  · exact z
  · rw [k] at z
    cases z
theorem dle_lt {a b c : D} (h : dlt b a = false) (k : dlt b c = true) : dlt a c = true := by
  rcases dlt_neg (b := a) k with z | z
  · rw [h] at z
    cases z
  · exact z
/-- three ways -/
theorem dlt_tri {a b : D} (ha : alike a.py b.py = true) (h : dlt a b = false) (k : dlt b a = false) : D.eqv a b = true := by
  cases e : D.eqv a b with
  | true => rfl
  | false =>
    have z := (PySem.W.toks_eqv a.py b.py ha).2 e
    have et : keyToks a.py = keyToks b.py := lex_total _ _ h k
    have z1 := z [] [Sum.inl 0]
    rw [et, PySem.W.lex_pre] at z1
    have y2 : PyProof.Rows.lexLt PyProof.Rows.itemOrd (keyToks b.py) (keyToks b.py) = false := lex_irrefl _
    rw [y2] at z1
    cases z1
theorem sort_pair {α : Type} (g : α → D) (xs : List α) : (xs.mergeSort (dataLe false fun x => (g x).py)).Pairwise fun a b => dlt (g b) (g a) = false := by
  have e : ∀ a b : α, dataLe false (fun x => (g x).py) a b = !dlt (g b) (g a) := fun a b => rfl
  have z := List.pairwise_mergeSort (le := dataLe false fun x => (g x).py) (fun a b c h k => by
    rw [e] at h k ⊢
    rw [Bool.not_eq_true'] at h k ⊢
    exact dle_trans h k) (fun a b => by
    rw [e, e]
    cases h : dlt (g b) (g a) with
    | false => rfl
    | true => rw [dlt_asym h]; rfl) xs
  exact z.imp fun {a b} h => by
    rw [e, Bool.not_eq_true'] at h
    exact h
/-! ### sorted(xs, key=len), the items tuples -/
def gLen : D → D
  | .tup ys => .int (ys.length : Nat)
  | _ => .non
section
variable {X : Cx}
theorem lenKeyRun {pins : List (Addr × Obj)} {σ : SL} {H : Hp} {M : DM} {s : Shared} {xs : List D} (hx : ∀ x ∈ xs, ∃ ys, x = .tup ys) : KeyRun X pins σ H M s (.builtin "len") xs gLen := by
  intro Hj s' d v x hdm un gr J rm rd ru
  obtain ⟨ys, rfl⟩ := hx d hdm
  cases rd with
  | @tup _ b vs hf z l =>
    obtain rfl : x = Value.ref b := ru
    obtain ⟨its, r', pl, hz⟩ := J.tuple hf
    have hlen := r'.length
    have hn := line63
    refine PyProof.Rows.len_tuple pl (by simp only [List.size_toArray]; omega) ⟨.int ys.length, Hj, rfl, J.bare, Un.refl, J.hok, ⟨s'.toks + 1, ?_⟩, .refl _, .int _, rm⟩
    rw [List.size_toArray, ← hlen, ← l.length]
def sortLenB (Q : DVK) (d : D) (M1 : DM) : Prop := ∃ xs : List (List D), dItems d M1 = some (xs.map D.tup) ∧ d ≠ .tup (xs.map D.tup) ∧ ∀ p, M1 p = none → Q (.ref p) (mput M1 p (.lst ((xs.map D.tup).mergeSort (dataLe false fun x => D.py (gLen x)))))
def dSortLen (t : DTE) : DTE := fun m M Q => t m M (sortLenB Q)
def sortLenP (Q : DVK) : List D → DM → Prop
  | [d], M1 => sortLenB Q d M1
  | _, _ => False
theorem d_sortLen {k : Nat} {e : Expr} {p p2 kp pos : Pos} {t : DTE} (hr : Room k X.A.in1.in1) (hg : Gl X "len") (hm : X.mg "len" = none) (hgs : Gl X "sorted") (hms : X.mg "sorted" = none) (ha : DE X e t)
    (he : backTo pos (starEach [e] X.env) = [(false, eval e X.env)] := by rfl) (hpl : (backTo pos (starEach [e] X.env)).any (·.1) = false := by rfl)
    (hall : (backToKw pos (keywordEach [⟨some (Str.ofString "key"), .Name "len" p2, kp⟩] X.env)).all (·.1.isSome) = true := by rfl) (hnone : (backToKw pos (keywordEach [⟨some (Str.ofString "key"), .Name "len" p2, kp⟩] X.env)).any (·.1.isNone) = false := by rfl)
    (hks : (backToKw pos (keywordEach [⟨some (Str.ofString "key"), .Name "len" p2, kp⟩] X.env)).filterMap (·.1) = [Str.ofString "key"] := by rfl)
    (hs0 : starEach [e] X.env = [(false, eval e X.env)] := by rfl) :
    DE X (.Call (.Name "sorted" p) [e] [⟨some (Str.ofString "key"), .Name "len" p2, kp⟩] pos) (dSortLen t) := by
  have hu : X.A.in1.in1.units + 40 < cLine := by
    have := hr.un
    omega
  refine ⟨fun pins s σ H Q I ⟨m, M, Q', r, q, kk⟩ => ?_⟩
  refine wpAny_Call_Name_kw (ld_blt I hgs hms boot_sorted ?_ (by decide) (by decide))
  refine PyProof.Rows.callWith_kw (thn ((da_cons ha da_nil hs0 : DA X [e] _).run pos pins s σ H (fun vs H1 => ∃ ds M1, Grow H H1 ∧ RepL X.K H1 ds vs ∧ RM X.K H1 M1 ∧ sortLenP Q' ds M1) I
    ⟨m, M, sortLenP Q', r, q, fun ds vs M1 H1 g1 l1 m1 q1 => ⟨ds, M1, g1, l1, m1, q1⟩⟩) fun us s1 ⟨vs, H1, I1, r1, ds, M1, g1, l1, m1, q1⟩ => ?_) he hpl hall hnone
  obtain ⟨d, rfl, q1⟩ : ∃ d, ds = [d] ∧ sortLenB Q' d M1 := by
    match ds, q1 with
    | [d], q1 => exact ⟨d, rfl, q1⟩
  obtain ⟨xs, hd, hnt, q1⟩ := q1
  obtain ⟨v, rfl, rv⟩ := repL_one l1
  obtain ⟨u, rfl, ru⟩ := vals1 r1
  show wpAny _ _ (evalAll ((do let v ← eval (.Name "len" p2) X.env; standAt pos; pure v) :: [])) _ _ s1
  refine wpAny_evalAll_cons (wpAny_bind (ld_blt I1 hg hm boot_len (wpAny_bind (wpAny_standAt (wpAny_pure ?_)))))
  refine wpAny_evalAll_nil ?_
  rw [hks]
  have hxt : ∀ x ∈ xs.map D.tup, ∃ ys, x = .tup ys := fun x hx => by
    obtain ⟨y, _, rfl⟩ := List.mem_map.mp hx
    exact ⟨y, rfl⟩
  have hxk : ∀ x ∈ (xs.map D.tup).map gLen, ∃ n : Int, x = .int n := fun x hx => by
    obtain ⟨y, hy, rfl⟩ := List.mem_map.mp hx
    obtain ⟨ys, rfl⟩ := hxt y hy
    exact ⟨_, rfl⟩
  refine sort_core I1 rv ru m1 hd hnt (fun a => ksk_t4 _ a) (lenKeyRun hxt) hu ?_ ?_ ?_ q1 fun d v M' H' g3 => kk d v M' H' (g1.trans g3)
  · refine List.all_eq_true.mpr fun x hx => ?_
    obtain ⟨n, rfl⟩ := hxk x hx
    simp
  · intro d hd d' hd'
    obtain ⟨x, hx, rfl⟩ := List.mem_map.mp hd
    obtain ⟨y, hy, rfl⟩ := List.mem_map.mp hd'
    obtain ⟨n, rfl⟩ := hxk x hx
    obtain ⟨k, rfl⟩ := hxk y hy
    simp [D.py, alike]
  · refine .inl (.inr fun d hd => ?_)
    obtain ⟨x, hx, rfl⟩ := List.mem_map.mp hd
    obtain ⟨n, rfl⟩ := hxk x hx
    exact ⟨(fun z => by cases z), fun xs z => by cases z⟩
end
end DL
/-! DL34: sorted of tuples of any lengths. -/
namespace DL
open PySem PySem.Spec PyProof.Rows L2
open PySem.W
theorem sorted_dataO {β : Type} {prog : Program} {w : World} {A : Around} {E : Value → Shared → Prop} {s : Shared} {vs : List Value} {bs : List β} {R : Value → β → Prop} {enc : β → PyData} {l : Addr} {Q : Value → Shared → Prop} (hl : s.heap.IsList l vs.toArray) (e : EachIs R vs bs) (er : EachIs (fun v b => ∃ as, Reads s.heap v (enc b) as) vs bs) (hal : AllAlike (bs.map enc)) (hk : SortOk (bs.map enc)) (hL : bs.length ≤ sizeLine)
    (hu : ∀ b, b ∈ bs → A.units + 2 + (enc b).depth < cLine) (h : ∀ out, out.length = bs.length → EachIs R out (bs.mergeSort (dataLe false enc)) → Q (.ref (s.heap.objs.size + 1)) { s with heap := sortedAll s.heap vs (List.toArray out) }) :
    wpAny (model prog w) A (call (.builtin "sorted") [.ref l]) Q E s := by
  have er' : EachIs (fun v b => ∃ as, Reads (sortingHeap (copyHeap s.heap vs) (s.heap.objs.size + 1) vs) v (enc b) as) vs bs := er.mono fun _ _ ⟨as, r⟩ => ⟨as, PyProof.Rows.Reads.keeps (fun _ _ => sorting_copy_old) r⟩
  exact sorted_vals hl (sortsAt_tups (s := { s with heap := sortingHeap (copyHeap s.heap vs) (s.heap.objs.size + 1) vs }) (each_map (R := fun v d => ∃ as, Reads (sortingHeap (copyHeap s.heap vs) (s.heap.objs.size + 1) vs) v d as) enc er') hal hk (bound_map hu)) (by rw [e.length]; exact hL)
    (h _ (by rw [sortVals_length false rfl]; exact e.length) (sortVals_data false e er' hal))
variable {X : Cx}
def rSortO : DCR := fun ds M Q => ∃ d xs, ds = [d] ∧ dItems d M = some xs ∧ d ≠ .tup xs ∧ xs.all (dOk 32) = true ∧ AllAlike (xs.map D.py) ∧ SortOk (xs.map D.py) ∧ ∀ p, M p = none → Q (.ref p) (mput M p (.lst (srtD xs)))
theorem c_sortO (hu : X.A.units + 40 < cLine) : DCall X (.builtin "sorted") rSortO := by
  intro pins s σ H vs us Q I r ⟨ds, M, Q', l, m, ⟨d, xs, e, h, h2, h3, h4, h5, q⟩, k⟩
  subst e
  obtain ⟨v, e, rv⟩ := repL_one l
  subst e
  obtain ⟨a, ws, rfl, z, l3, h6⟩ := lst_of rv m h h2
  obtain ⟨its, r2, pl, _⟩ := I.list h6
  rw [Vals.ref1 r]
  have hz : xs.length ≤ sizeLine := by rw [l3.length]; exact z
  refine sorted_dataO (vs := its) (bs := xs) (enc := D.py) pl.isList (rel_each l3 r2) (reads_each I l3 r2 h3) h4 h5 hz (fun b hb => ?_) fun out ho hr => ?_
  · have := (dOk_lay 32 b (List.all_eq_true.mp h3 b hb)).2
    omega
  · obtain ⟨vs', h7, h8⟩ := each_rel hr
    obtain ⟨ep, he'⟩ := PyProof.Rows.sortedAll_at s.heap its out.toArray
    have hlen : vs'.length ≤ sizeLine := by rw [← h8.length, List.length_mergeSort]; exact hz
    have hp := I.hok.fresh (Nat.le_succ s.heap.objs.size)
    refine ⟨.ref _, upd H (s.heap.objs.size + 1) (.lst vs'), I.laid (t' := s.toks) (fun _ _ => PyProof.Rows.sortedAll_old) (Nat.le_succ _) ⟨hlen, out, ep, h7, he'⟩, rfl, ?_⟩
    exact k _ _ _ _ (.new hp) (.ref _) (m.newLst hp hlen h8) (q _ (m.free hp))
end DL
/-! DL40: d.setdefault(k, x), d.get(k, x) with tuples as keys; d.setdefault(k, x) with texts as keys. -/
namespace DL
open PySem PySem.Spec PyProof.Rows L2
section
variable {X : Cx} {o e f : Expr} {apos cpos : Pos} {to te tf : DTE}
def dDGet2 (w : World) (to te tf : DTE) : DTE := fun m M Q => to m M fun d M1 => ∃ a, d = .ref a ∧ (∃ kvs, M1 a = some (.dct w kvs)) ∧ te m M1 fun k M2 => tf m M2 fun z M3 => ∃ kvs, M3 a = some (.dct w kvs) ∧ isKey k ∧ Q ((dget kvs k).getD z) M3
theorem d_dget2 {w : World} (hw : X.w = w) (hu : X.A.units + 9 < cLine) (ho : DE X o to) (he : DE X e te) (hf : DE X f tf) (m : M2 X o "get" apos e f cpos := by exact ⟨by rfl, by rfl, by rfl, by rfl⟩) : DE X (.Call (.Attribute o "get" apos) [e, f] [] cpos) (dDGet2 w to te tf) := by
  subst hw
  refine ⟨fun pins s σ H Q I ⟨m0, M, Q', r, q, kk⟩ => ?_⟩
  refine wpAny_Call_method m.base m.few m.line PySem.F.plainAttrs_dict PySem.F.slot_dict_get PySem.F.type_dict_get (thn (ho.run pins s σ H (fun x H1 => ∃ a M1, x = .ref a ∧ Grow H H1 ∧ RM X.K H1 M1 ∧ (∃ kvs, M1 a = some (.dct X.w kvs)) ∧ te m0 M1 fun k M2 => tf m0 M2 fun z M3 => ∃ kvs, M3 a = some (.dct X.w kvs) ∧ isKey k ∧ Q' ((dget kvs k).getD z) M3) I
    ⟨m0, M, _, r, q, fun d v M1 H1 g1 r1 m1 ⟨a, e1, h1, q1⟩ => by subst e1; cases r1; exact ⟨a, M1, rfl, g1, m1, h1, q1⟩⟩) fun u s1 ⟨x, H1, I1, rx, a, M1, ex, g1, m1, ⟨kvs, hk⟩, q1⟩ => ?_)
  subst ex
  obtain rfl : u = Value.ref a := rx
  obtain ⟨es, h1, hz, rkv⟩ := m1.dct hk
  obtain ⟨hs, xs, pr, dd⟩ := dict_of I1 h1 rkv
  refine ⟨dd.typeIs, fun b hb => ?_, ?_⟩
  · cases hb
    obtain ⟨ob, _, _, k1, k2, _⟩ := dd
    exact ⟨ob, k1, k2.2.1⟩
  rw [m.trees]
  refine Calls.callWith_builtin rfl (Calls.evalArgs_plain (Calls.spliced_cons (thn (he.run pins s1 σ H1 (fun y H2 => ∃ k M2, Rep X.K H2 k y ∧ Grow H H2 ∧ RM X.K H2 M2 ∧ tf m0 M2 fun z M3 => ∃ kvs, M3 a = some (.dct X.w kvs) ∧ isKey k ∧ Q' ((dget kvs k).getD z) M3) I1
    ⟨m0, M1, _, r.grow g1 m1, q1, fun d v M2 H2 g2 r2 m2 q2 => ⟨d, M2, r2, g1.trans g2, m2, q2⟩⟩) fun iv s2 ⟨y, H2, I2, ry, k, M2, r2, g2, m2, q2⟩ =>
    Calls.spliced_cons (thn (hf.run pins s2 σ H2 (fun y3 H3 => ∃ z M3 kvs, Rep X.K H3 z y3 ∧ Rep X.K H3 k y ∧ Grow H H3 ∧ RM X.K H3 M3 ∧ M3 a = some (.dct X.w kvs) ∧ isKey k ∧ Q' ((dget kvs k).getD z) M3) I2
    ⟨m0, M2, _, r.grow g2 m2, q2, fun d v M3 H3 g3 r3 m3 ⟨kvs, e1, ky, q3⟩ => ⟨d, M3, kvs, r3, r2.grow g3, g2.trans g3, m3, e1, ky, q3⟩⟩) fun jv s3 ⟨y3, H3, I3, ry3, z, M3, kvs3, r3, rk3, g3, m3, e3, ⟨⟨ks, ek⟩, hok, hdp⟩, q3⟩ => Calls.spliced_nil ?_))))
  subst ek
  cases rk3 with
  | @tup _ b vs hf z2 l =>
    obtain rfl : iv = Value.ref b := ry
    obtain ⟨es2, h2, hz2, rkv2⟩ := m3.dct e3
    obtain ⟨hs2, xs2, pr2, dd2⟩ := dict_of I3 h2 rkv2
    have rk : Rep X.K H3 (.tup ks) (.ref b) := .tup hf z2 l
    refine call_meetsIn PySem.F.slot_dict_get dd2.typeIs PySem.F.entry_dict_get (PySem.F.args_dict_get_3 _ _ _) (meetsH_dict_get_default (nestedKind X.prog X.w) a b hs2 jv) ⟨?_, nk (.tup ks), xs2, ⟨Rep.nested I3 rk rfl hok, hdp⟩, dd2, ?_⟩
    · show X.A.units + 1 + 8 < cLine
      omega
    · have ra := atV_at (k := nk (.tup ks)) pr2
      rcases dget_at (k := .tup ks) rkv2 with ⟨n1, n2⟩ | ⟨d, y', n1, n2, rd⟩
      · rw [n2] at ra
        rw [n1] at q3
        cases ha : (atKey xs2 (nk (.tup ks))).map (·.2) with
        | some v => rw [ha] at ra; exact ra.elim
        | none => exact ⟨y3, H3, I3.tok _, ry3, kk _ _ M3 H3 g3 r3 m3 q3⟩
      · rw [n2] at ra
        rw [n1] at q3
        cases ha : (atKey xs2 (nk (.tup ks))).map (·.2) with
        | some v =>
          rw [ha] at ra
          exact ⟨y', H3, I3.tok _, ra, kk _ _ M3 H3 g3 rd m3 q3⟩
        | none => rw [ha] at ra; exact ra.elim
def dDSetDf (w : World) (to te tf : DTE) : DTE := fun m M Q => to m M fun d M1 => ∃ a, d = .ref a ∧ (∃ kvs, M1 a = some (.dct w kvs)) ∧ te m M1 fun k M2 => tf m M2 fun z M3 => ∃ kvs, M3 a = some (.dct w kvs) ∧ isKey k ∧ kvs.length < 16777216 ∧
  (∀ v, dget kvs k = some v → Q v M3) ∧ (dget kvs k = none → Q z (mput M3 a (.dct w (dput kvs k z))))
theorem d_dsetdf {w : World} (hw : X.w = w) (hu : X.A.units + 9 < cLine) (ho : DE X o to) (he : DE X e te) (hf : DE X f tf) (m : M2 X o "setdefault" apos e f cpos := by exact ⟨by rfl, by rfl, by rfl, by rfl⟩) : DE X (.Call (.Attribute o "setdefault" apos) [e, f] [] cpos) (dDSetDf w to te tf) := by
  subst hw
  refine ⟨fun pins s σ H Q I ⟨m0, M, Q', r, q, kk⟩ => ?_⟩
  refine wpAny_Call_method m.base m.few m.line PySem.F.plainAttrs_dict PySem.F.slot_dict_setdefault PySem.F.type_dict_setdefault (thn (ho.run pins s σ H (fun x H1 => ∃ a M1, x = .ref a ∧ Grow H H1 ∧ RM X.K H1 M1 ∧ (∃ kvs, M1 a = some (.dct X.w kvs)) ∧ te m0 M1 fun k M2 => tf m0 M2 fun z M3 => ∃ kvs, M3 a = some (.dct X.w kvs) ∧ isKey k ∧ kvs.length < 16777216 ∧
      (∀ v, dget kvs k = some v → Q' v M3) ∧ (dget kvs k = none → Q' z (mput M3 a (.dct X.w (dput kvs k z))))) I
    ⟨m0, M, _, r, q, fun d v M1 H1 g1 r1 m1 ⟨a, e1, h1, q1⟩ => by subst e1; cases r1; exact ⟨a, M1, rfl, g1, m1, h1, q1⟩⟩) fun u s1 ⟨x, H1, I1, rx, a, M1, ex, g1, m1, ⟨kvs, hk⟩, q1⟩ => ?_)
  subst ex
  obtain rfl : u = Value.ref a := rx
  obtain ⟨es, h1, hz, rkv⟩ := m1.dct hk
  obtain ⟨hs, xs, pr, dd⟩ := dict_of I1 h1 rkv
  refine ⟨dd.typeIs, fun b hb => ?_, ?_⟩
  · cases hb
    obtain ⟨ob, _, _, k1, k2, _⟩ := dd
    exact ⟨ob, k1, k2.2.1⟩
  rw [m.trees]
  refine Calls.callWith_builtin rfl (Calls.evalArgs_plain (Calls.spliced_cons (thn (he.run pins s1 σ H1 (fun y H2 => ∃ k M2, Rep X.K H2 k y ∧ Grow H H2 ∧ RM X.K H2 M2 ∧ tf m0 M2 fun z M3 => ∃ kvs, M3 a = some (.dct X.w kvs) ∧ isKey k ∧ kvs.length < 16777216 ∧
      (∀ v, dget kvs k = some v → Q' v M3) ∧ (dget kvs k = none → Q' z (mput M3 a (.dct X.w (dput kvs k z))))) I1
    ⟨m0, M1, _, r.grow g1 m1, q1, fun d v M2 H2 g2 r2 m2 q2 => ⟨d, M2, r2, g1.trans g2, m2, q2⟩⟩) fun iv s2 ⟨y, H2, I2, ry, k, M2, r2, g2, m2, q2⟩ =>
    Calls.spliced_cons (thn (hf.run pins s2 σ H2 (fun y3 H3 => ∃ z M3 kvs, Rep X.K H3 z y3 ∧ Rep X.K H3 k y ∧ Grow H H3 ∧ RM X.K H3 M3 ∧ M3 a = some (.dct X.w kvs) ∧ isKey k ∧ kvs.length < 16777216 ∧
      (∀ v, dget kvs k = some v → Q' v M3) ∧ (dget kvs k = none → Q' z (mput M3 a (.dct X.w (dput kvs k z))))) I2
    ⟨m0, M2, _, r.grow g2 m2, q2, fun d v M3 H3 g3 r3 m3 ⟨kvs, e1, ky, hlt, q3, q4⟩ => ⟨d, M3, kvs, r3, r2.grow g3, g2.trans g3, m3, e1, ky, hlt, q3, q4⟩⟩) fun jv s3 ⟨y3, H3, I3, ry3, z, M3, kvs3, r3, rk3, g3, m3, e3, ⟨⟨ks, ek⟩, hok, hdp⟩, hlt, q3, q4⟩ => Calls.spliced_nil ?_))))
  subst ek
  cases rk3 with
  | @tup _ b vs hf z2 l =>
    obtain rfl : iv = Value.ref b := ry
    obtain ⟨es2, h2, hz2, rkv2⟩ := m3.dct e3
    obtain ⟨hs2, xs2, pr2, dd2⟩ := dict_of I3 h2 rkv2
    have rk : Rep X.K H3 (.tup ks) (.ref b) := .tup hf z2 l
    have hl : xs2.length ≤ sizeLine := by rw [← pr2.length]; exact hz2
    have ra := atV_at (k := nk (.tup ks)) pr2
    refine call_setdefault_heap (knd := nestedKind X.prog X.w) (k := nk (.tup ks)) (xs := xs2) ?_ ⟨Rep.nested I3 rk rfl hok, hdp⟩ hs2 dd2 (fun p hp => ?_) (fun hn h' dd' hsb => ?_) (hsz := hl)
    · show X.A.units + 1 + 8 < cLine
      omega
    · rcases dget_at (k := .tup ks) rkv2 with ⟨n1, n2⟩ | ⟨d, y', n1, n2, rd⟩
      · rw [n2, hp] at ra
        exact ra.elim
      · rw [n2, hp] at ra
        exact ⟨y', H3, I3.tok _, ra, kk _ _ M3 H3 g3 rd m3 (q3 d n1)⟩
    · have rkv3 := rkv2.store rk hok hdp r3
      have hlen : (dput kvs3 (.tup ks) z).length ≤ sizeLine := by
        have := dput_len kvs3 (.tup ks) z
        rw [sizeLine_eq]
        omega
      have n1 : dget kvs3 (.tup ks) = none := by
        rcases dget_at (k := .tup ks) rkv2 with ⟨n1, n2⟩ | ⟨d, y', n1, n2, rd⟩
        · exact n1
        · rw [n2, hn] at ra
          exact ra.elim
      obtain ⟨o', _, _, ho', _⟩ := id dd'
      have ge : Grow H3 (upd H3 a (DictO X.w a (storeV es2 (nk (.tup ks)) b y3))) := Grow.dct h2
      exact ⟨y3, _, d_write I3 (by rw [h2]; exact True.intro) hsb ⟨o', ho'⟩ (dict_new hs2 (EsXs.store pr2 ry3) dd'), ry3, kk _ _ _ _ (g3.trans ge) (r3.grow ge) (m3.putDct h2 (by rw [← rkv3.len]; exact hlen) rkv3) (q4 n1)⟩
end
end DL
/-! DL49: what a dict's pairs give behind a put. -/
namespace DL
open PySem PySem.Spec PyProof.Rows L2
theorem dget_put (kvs : List (D × D)) (x v y : D) : dget (dput kvs x v) y = if nk x = nk y then some v else dget kvs y := by
  have key : ∀ l : List (D × D), ((l.map fun p => if nk p.1 = nk x then (p.1, v) else p).find? fun p => decide (nk p.1 = nk y)).map (·.2) = if nk x = nk y ∧ dhas l x = true then some v else dget l y := by
    intro l
    induction l with
    | nil =>
      rw [if_neg (fun z => by cases z.2)]
      rfl
    | cons p l ih =>
      unfold dget dhas at ih ⊢
      rw [List.map_cons, List.find?_cons, List.find?_cons, List.any_cons]
      by_cases e1 : nk p.1 = nk x
      · rw [if_pos e1]
        by_cases e2 : nk x = nk y
        · have e3 : nk p.1 = nk y := e1.trans e2
          simp [e1, e2, e3]
        · have e3 : ¬ nk p.1 = nk y := fun z => e2 (e1.symm.trans z)
          simp only [decide_eq_false e3]
          rw [ih, if_neg (fun z => e2 z.1), if_neg (fun z => e2 z.1)]
      · rw [if_neg e1]
        by_cases e3 : nk p.1 = nk y
        · have e2 : ¬ nk x = nk y := fun z => e1 (e3.trans z.symm)
          simp [e3, e2]
        · simp only [decide_eq_false e3, decide_eq_false e1, Bool.false_or]
          exact ih
  unfold dput
  split
  · next c =>
    unfold dget at key ⊢
    rw [key kvs]
    by_cases e : nk x = nk y
    · rw [if_pos ⟨e, c⟩, if_pos e]
    · rw [if_neg (fun z => e z.1), if_neg e]
  · next c =>
    unfold dget
    rw [List.find?_append]
    by_cases e : nk x = nk y
    · rw [if_pos e]
      have hn : kvs.find? (fun p => decide (nk p.1 = nk y)) = none := by
        rw [List.find?_eq_none]
        intro p hp z
        refine c ?_
        unfold dhas
        rw [List.any_eq_true]
        exact ⟨p, hp, decide_eq_true ((of_decide_eq_true z).trans e.symm)⟩
      rw [hn]
      simp [e]
    · rw [if_neg e]
      cases kvs.find? (fun p => decide (nk p.1 = nk y)) with
      | some u => rfl
      | none => simp [e]
/-- where a pair stands -/
theorem cast_sum0 : ∀ l : List Nat, ((l.map fun i : Nat => (i : Int)).sum) = ((l.sum : Nat) : Int)
  | [] => rfl
  | x :: l => by
    rw [List.map_cons, List.sum_cons, List.sum_cons, cast_sum0 l]
    push_cast
    rfl
end DL
set_option maxHeartbeats 1000000
/-! DL51: dicts whose keys are tuples, frozen (D.dmt): frozen, looked up, walked. -/
namespace DL
open PySem PySem.Spec PyProof.Rows L2
section
variable {K : PySem.W.Frag} {H : Hp} {M : DM}
/-- d is the dict kvs, frozen or in the mutable part -/
def IsMap (w : World) (d : D) (M : DM) (kvs : List (D × D)) : Prop := d = .dmt w kvs ∨ ∃ a, d = .ref a ∧ M a = some (.dct w kvs)
theorem IsMap.frz {w : World} {kvs : List (D × D)} : IsMap w (.dmt w kvs) M kvs := .inl rfl
theorem IsMap.of {w : World} {a : Addr} {kvs : List (D × D)} (h : M a = some (.dct w kvs)) : IsMap w (.ref a) M kvs := .inr ⟨a, rfl, h⟩
theorem map_at {w : World} {d : D} {v : V} {kvs : List (D × D)} (r : Rep K H d v) (m : RM K H M) (h : IsMap w d M kvs) : ∃ a es, v = .ref a ∧ Rd H a (DictO w a es) ∧ es.length ≤ sizeLine ∧ RepKV K H kvs es := by
  rcases h with rfl | ⟨a, rfl, h⟩
  · cases r with
    | dmt h z l => exact ⟨_, _, rfl, .inr ⟨_, h⟩, z, l⟩
  · cases r
    obtain ⟨es, h1, z, l⟩ := m.dct h
    exact ⟨a, es, rfl, .inl h1, z, l⟩
theorem RM.frzDct {w : World} {p : Addr} {es : List (NestedKey × Addr × V)} {o : Obj} (h : RM K H M) (hp : H p = some (DictO w p es)) : RM K (upd H p (.frz o (DictO w p es))) (mdel M p) := fun a q e => by
  have ha : a ≠ p := fun z => by
    subst z
    unfold mdel at e
    simp at e
  have e' : M a = some q := by
    unfold mdel at e
    rw [if_neg ha] at e
    exact e
  exact (h a q e').stay (upd_ne ha) (Grow.dct hp)
end
section
variable {X : Cx} {pins : List (Addr × Obj)} {σ : SL} {H : Hp} {s : Shared}
theorem dict_ofR {a : Addr} {kvs : List (D × D)} {es : List (NestedKey × Addr × V)} (I : Inv X pins σ H s) (h : Rd H a (DictO X.w a es)) (r : RepKV X.K H kvs es) :
    (a == sysModules) = false ∧ ∃ xs, EsXs es xs ∧ s.heap.DictOfH (nestedKind X.prog X.w) a xs := by
  have ok : ObjOk X.prog X.w H s.heap a (DictO X.w a es) := by
    rcases h with h | ⟨o, h⟩
    · exact I.hok a _ h
    · exact (show _ ∧ _ from I.hok a _ h).2
  obtain ⟨⟨xs, pr, ⟨o, ents, ep, h1, h2, h3, h4⟩, nd, hs⟩, _, _⟩ := ok
  exact ⟨hs, xs, pr, o, ents, ep, h1, h2, h3, h4, RepKV.is I rfl r pr, nd⟩
end
/-! ### frozen -/
section
variable {X : Cx} {o e f : Expr} {apos cpos pos : Pos} {te to tf : DTE}
theorem inv_frzM {pins : List (Addr × Obj)} {σ : SL} {H : Hp} {s : Shared} {w : World} {p : Addr} {es : List (NestedKey × Addr × V)} (I : Inv X pins σ H s) (h : H p = some (DictO w p es)) : ∃ ob, Inv X pins σ (upd H p (.frz ob (DictO w p es))) s := I.lock h True.intro
def tFzM (w : World) (t : TE) : TE := fun σ H Q => t σ H fun v H1 => ∃ p es, v = .ref p ∧ H1 p = some (DictO w p es) ∧ ∀ ob, Q v (upd H1 p (.frz ob (DictO w p es)))
theorem pe_fzM {w : World} {t : TE} (h : PE X e t) : PE X e (tFzM w t) := by
  refine ⟨fun pins s σ H Q I q => thn (h.run pins s σ H _ I q) fun u s1 ⟨v, H1, I1, r1, p, es, e1, e2, q1⟩ => ?_⟩
  obtain ⟨ob, I2⟩ := inv_frzM I1 e2
  exact ⟨v, _, I2, r1, q1 ob⟩
/-- the dict that comes is frozen -/
def dFzM (w : World) (t : DTE) : DTE := fun m M Q => t m M fun d M1 => ∃ p kvs, d = .ref p ∧ M1 p = some (.dct w kvs) ∧ Q (.dmt w kvs) (mdel M1 p)
theorem d_fzM {w : World} (h : DE X e te) : DE X e (dFzM w te) :=
  imE (pe_fzM h) fun σ H Q ⟨m, M, Q', r, q, k⟩ => by
    refine ⟨m, M, _, r, q, fun d v M1 H1 g1 r1 m1 ⟨p, kvs, e1, e2, q1⟩ => ?_⟩
    subst e1
    cases r1
    obtain ⟨es, h1, z, l⟩ := m1.dct e2
    exact ⟨p, es, rfl, h1, fun ob => k _ _ _ _ (g1.trans (.dct h1)) (.dmt upd_same z (l.grow (Grow.dct h1))) (m1.frzDct h1) q1⟩
/-- slot i's dict is frozen ahead of a statement -/
def dFzMS (w : World) (i : Nat) (t : DTS) : DTS := fun Z m M => ∃ p kvs, m[i]? = some (some (.ref p)) ∧ M p = some (.dct w kvs) ∧ t Z (m.set i (some (.dmt w kvs))) (mdel M p)
theorem ds_fzM {w : World} {st : Stmt} {t : DTS} (i : Nat) (h : DS X st t) : DS X st (dFzMS w i t) := by
  refine ⟨fun pins s σ H Z I ⟨m, M, Z', r, ⟨p, kvs, e1, e2, q⟩, k⟩ => ?_⟩
  obtain ⟨v, hv, rv⟩ := r.slot i _ e1
  cases rv
  obtain ⟨es, h1, z, l⟩ := r.mem.dct e2
  obtain ⟨ob, I2⟩ := inv_frzM I h1
  have g : Grow H (upd H p (.frz ob (DictO w p es))) := Grow.dct h1
  have r2 : R X.K m (mdel M p) σ (upd H p (.frz ob (DictO w p es))) := r.grow g (r.mem.frzDct h1)
  have r3 := r2.set (i := i) (d := .dmt w kvs) (v := .ref p) (.dmt upd_same z (l.grow g))
  have es' : σ.set i (some (V.ref p)) = σ := by
    refine List.ext_getElem? fun j => ?_
    by_cases c : i = j
    · subst c
      by_cases hi : i < σ.length
      · rw [List.getElem?_set_self hi, hv]
      · rw [List.getElem?_eq_none (by omega)] at hv
        cases hv
    · rw [List.getElem?_set_ne c]
  rw [es'] at r3
  exact h.run pins s σ _ Z I2 ⟨_, _, Z', r3, q, k.grow g⟩
/-! ### looked up -/
def dMIx (w : World) : DR2 := fun x y M Q => ∃ kvs v, IsMap w x M kvs ∧ isKey y ∧ dget kvs y = some v ∧ Q v M
theorem x_mix {w : World} (hw : X.w = w) (hu : X.A.units + 9 < cLine) : IxR X (upR2 X.K (dMIx w)) := by
  subst hw
  intro value slice pins s σ H x y v u Q I rx ry ⟨d, e, M, Q', r1, r2, m, ⟨kvs, v0, h2, ⟨⟨ks, ek⟩, hok, hdp⟩, h3, q⟩, k⟩ hop
  subst ek
  obtain ⟨a, es, rfl, g1, hz, rkv⟩ := map_at r1 m h2
  obtain rfl : v = Value.ref a := rx
  cases r2 with
  | @tup _ b vs hf z l =>
    obtain rfl : u = Value.ref b := ry
    obtain ⟨hs, xs, pr, dd⟩ := dict_ofR I g1 rkv
    have rk : Rep X.K H (.tup ks) (.ref b) := .tup hf z l
    rcases dget_at (k := .tup ks) rkv with ⟨n1, n2⟩ | ⟨d, y', n1, n2, rd⟩
    · rw [n1] at h3
      cases h3
    · rw [n1] at h3
      cases h3
      have ra := atV_at (k := nk (.tup ks)) pr
      rw [n2] at ra
      cases ha : atKey xs (nk (.tup ks)) with
      | none => rw [ha] at ra; exact ra.elim
      | some p =>
        rw [ha] at ra
        refine subscriptTail_builtinR (x := p.2) dd.typeIs PySem.F.slot_dict_getitem.lookup (wpAny_getItem_heap (knd := nestedKind X.prog X.w) (Q := fun r s' => r = p.2 ∧ EP X pins σ Q r s') ?_ ⟨Rep.nested I rk rfl hok, hdp⟩ dd ha ⟨rfl, y', H, I.tok _, ra, k _ _ M H (.refl H) rd m q⟩) hop
        show X.A.units + 1 + 8 < cLine
        omega
def dMIn (w : World) : DR2 := fun x y M Q => ∃ kvs, IsMap w y M kvs ∧ isKey x ∧ Q (.bl (dhas kvs x)) M
def dMNotIn (w : World) : DR2 := fun x y M Q => ∃ kvs, IsMap w y M kvs ∧ isKey x ∧ Q (.bl (!dhas kvs x)) M
theorem o_inM {w : World} (hw : X.w = w) (hu : X.A.units + 9 < cLine) : DOp X (compareOp .In) (dMIn w) := by
  subst hw
  intro pins s σ H x y v u Q I rx ry ⟨d, e, M, Q', r1, r2, m, ⟨kvs, h2, ⟨⟨ks, ek⟩, hok, hdp⟩, q⟩, k⟩
  subst ek
  obtain ⟨a, es, rfl, g1, hz, rkv⟩ := map_at r2 m h2
  obtain rfl : u = Value.ref a := ry
  cases r1 with
  | @tup _ b vs hf z l =>
    obtain rfl : v = Value.ref b := rx
    obtain ⟨hs, xs, pr, dd⟩ := dict_ofR I g1 rkv
    have rk : Rep X.K H (.tup ks) (.ref b) := .tup hf z l
    refine wpAny_in_heap (knd := nestedKind X.prog X.w) ?_ ⟨Rep.nested I rk rfl hok, hdp⟩ hs dd ?_
    · show X.A.units + 1 + 8 < cLine
      omega
    · rw [any_at pr, has_any rkv]
      exact ⟨.bl _, H, I.tok _, rfl, k _ _ M H (.refl H) (.bl _) m q⟩
theorem o_notinM {w : World} (hw : X.w = w) (hu : X.A.units + 9 < cLine) : DOp X (compareOp .NotIn) (dMNotIn w) := by
  subst hw
  intro pins s σ H x y v u Q I rx ry ⟨d, e, M, Q', r1, r2, m, ⟨kvs, h2, ⟨⟨ks, ek⟩, hok, hdp⟩, q⟩, k⟩
  subst ek
  obtain ⟨a, es, rfl, g1, hz, rkv⟩ := map_at r2 m h2
  obtain rfl : u = Value.ref a := ry
  cases r1 with
  | @tup _ b vs hf z l =>
    obtain rfl : v = Value.ref b := rx
    obtain ⟨hs, xs, pr, dd⟩ := dict_ofR I g1 rkv
    have rk : Rep X.K H (.tup ks) (.ref b) := .tup hf z l
    refine wpAny_notIn_heap (knd := nestedKind X.prog X.w) ?_ ⟨Rep.nested I rk rfl hok, hdp⟩ hs dd ?_
    · show X.A.units + 1 + 8 < cLine
      omega
    · rw [any_at pr, has_any rkv]
      exact ⟨.bl _, H, I.tok _, rfl, k _ _ M H (.refl H) (.bl _) m q⟩
def dMGet2 (w : World) (to te tf : DTE) : DTE := fun m M Q => to m M fun d M1 => (∃ kvs, IsMap w d M1 kvs) ∧ te m M1 fun k M2 => tf m M2 fun z M3 => ∃ kvs, IsMap w d M3 kvs ∧ isKey k ∧ Q ((dget kvs k).getD z) M3
theorem d_mget2 {w : World} (hw : X.w = w) (hu : X.A.units + 9 < cLine) (ho : DE X o to) (he : DE X e te) (hf : DE X f tf) (m : M2 X o "get" apos e f cpos := by exact ⟨by rfl, by rfl, by rfl, by rfl⟩) : DE X (.Call (.Attribute o "get" apos) [e, f] [] cpos) (dMGet2 w to te tf) := by
  subst hw
  refine ⟨fun pins s σ H Q I ⟨m0, M, Q', r, q, kk⟩ => ?_⟩
  refine wpAny_Call_method m.base m.few m.line PySem.F.plainAttrs_dict PySem.F.slot_dict_get PySem.F.type_dict_get (thn (ho.run pins s σ H (fun x H1 => ∃ d M1, Rep X.K H1 d x ∧ Grow H H1 ∧ RM X.K H1 M1 ∧ (∃ kvs, IsMap X.w d M1 kvs) ∧ te m0 M1 fun k M2 => tf m0 M2 fun z M3 => ∃ kvs, IsMap X.w d M3 kvs ∧ isKey k ∧ Q' ((dget kvs k).getD z) M3) I
    ⟨m0, M, _, r, q, fun d v M1 H1 g1 r1 m1 ⟨h1, q1⟩ => ⟨d, M1, r1, g1, m1, h1, q1⟩⟩) fun u s1 ⟨x, H1, I1, rx, d0, M1, rd0, g1, m1, ⟨kvs, hk⟩, q1⟩ => ?_)
  obtain ⟨a, es, rfl, h1, hz, rkv⟩ := map_at rd0 m1 hk
  obtain rfl : u = Value.ref a := rx
  obtain ⟨hs, xs, pr, dd⟩ := dict_ofR I1 h1 rkv
  refine ⟨dd.typeIs, fun b hb => ?_, ?_⟩
  · cases hb
    obtain ⟨ob, _, _, k1, k2, _⟩ := dd
    exact ⟨ob, k1, k2.2.1⟩
  rw [m.trees]
  refine Calls.callWith_builtin rfl (Calls.evalArgs_plain (Calls.spliced_cons (thn (he.run pins s1 σ H1 (fun y H2 => ∃ k M2, Rep X.K H2 k y ∧ Rep X.K H2 d0 (.ref a) ∧ Grow H H2 ∧ RM X.K H2 M2 ∧ tf m0 M2 fun z M3 => ∃ kvs, IsMap X.w d0 M3 kvs ∧ isKey k ∧ Q' ((dget kvs k).getD z) M3) I1
    ⟨m0, M1, _, r.grow g1 m1, q1, fun d v M2 H2 g2 r2 m2 q2 => ⟨d, M2, r2, rd0.grow g2, g1.trans g2, m2, q2⟩⟩) fun iv s2 ⟨y, H2, I2, ry, k, M2, r2, rd2, g2, m2, q2⟩ =>
    Calls.spliced_cons (thn (hf.run pins s2 σ H2 (fun y3 H3 => ∃ z M3 kvs, Rep X.K H3 z y3 ∧ Rep X.K H3 k y ∧ Rep X.K H3 d0 (.ref a) ∧ Grow H H3 ∧ RM X.K H3 M3 ∧ IsMap X.w d0 M3 kvs ∧ isKey k ∧ Q' ((dget kvs k).getD z) M3) I2
    ⟨m0, M2, _, r.grow g2 m2, q2, fun d v M3 H3 g3 r3 m3 ⟨kvs, e1, ky, q3⟩ => ⟨d, M3, kvs, r3, r2.grow g3, rd2.grow g3, g2.trans g3, m3, e1, ky, q3⟩⟩) fun jv s3 ⟨y3, H3, I3, ry3, z, M3, kvs3, r3, rk3, rd3, g3, m3, e3, ⟨⟨ks, ek⟩, hok, hdp⟩, q3⟩ => Calls.spliced_nil ?_))))
  subst ek
  cases rk3 with
  | @tup _ b vs hf z2 l =>
    obtain rfl : iv = Value.ref b := ry
    obtain ⟨a2, es2, ea, h2, hz2, rkv2⟩ := map_at rd3 m3 e3
    cases ea
    obtain ⟨hs2, xs2, pr2, dd2⟩ := dict_ofR I3 h2 rkv2
    have rk : Rep X.K H3 (.tup ks) (.ref b) := .tup hf z2 l
    refine call_meetsIn PySem.F.slot_dict_get dd2.typeIs PySem.F.entry_dict_get (PySem.F.args_dict_get_3 _ _ _) (meetsH_dict_get_default (nestedKind X.prog X.w) a b hs2 jv) ⟨?_, nk (.tup ks), xs2, ⟨Rep.nested I3 rk rfl hok, hdp⟩, dd2, ?_⟩
    · show X.A.units + 1 + 8 < cLine
      omega
    · have ra := atV_at (k := nk (.tup ks)) pr2
      rcases dget_at (k := .tup ks) rkv2 with ⟨n1, n2⟩ | ⟨d, y', n1, n2, rd⟩
      · rw [n2] at ra
        rw [n1] at q3
        cases ha : (atKey xs2 (nk (.tup ks))).map (·.2) with
        | some v => rw [ha] at ra; exact ra.elim
        | none => exact ⟨y3, H3, I3.tok _, ry3, kk _ _ M3 H3 g3 r3 m3 q3⟩
      · rw [n2] at ra
        rw [n1] at q3
        cases ha : (atKey xs2 (nk (.tup ks))).map (·.2) with
        | some v =>
          rw [ha] at ra
          exact ⟨y', H3, I3.tok _, ra, kk _ _ M3 H3 g3 rd m3 q3⟩
        | none => rw [ha] at ra; exact ra.elim
end
/-! ### walked -/
section
variable {X : Cx} {pins : List (Addr × Obj)} {σ : SL} {H : Hp} {s : Shared} {d : Addr} {o : Obj} {es : List (NestedKey × Addr × V)}
theorem esxs_get : ∀ {es : List (NestedKey × Addr × V)} {xs : List (NestedKey × Addr × Value)}, EsXs es xs → ∀ {i : Nat} {k : NestedKey} {b : Addr} {y : V}, es[i]? = some (k, b, y) → ∃ q, xs[i]? = some q ∧ q.2.1 = b ∧ RelV y q.2.2
  | _, _, .nil, i, k, b, y, e => by simp at e
  | _, _, .cons (a := p) (b := q) ⟨h1, h2, h3⟩ t, 0, k, b, y, e => by
    simp only [List.getElem?_cons_zero, Option.some.injEq] at e
    subst e
    exact ⟨q, rfl, h2.symm, h3⟩
  | _, _, .cons (a := p) (b := q) _ t, i + 1, k, b, y, e => by
    simp only [List.getElem?_cons_succ] at e ⊢
    exact esxs_get t e
theorem frz_raw (I : Inv X pins σ H s) (h : H d = some (.frz o (DictO X.w d es))) :
    (d == sysModules) = false ∧ s.heap.get? d = some o ∧ o.ExactDict ∧ ∃ (ents : Array DictEntry) (ep : Nat), o.data = .dict ents ep ∧ ents.size = es.length ∧
      ∀ (i : Nat) (k : NestedKey) (b : Addr) (y : V), es[i]? = some (k, b, y) → ∃ en : DictEntry, ents[i]? = some en ∧ en.key = .ref b ∧ RelV y en.val := by
  obtain ⟨hd, ⟨xs, pr, ⟨o', ents, ep, ho, hx, hdt, he⟩, nd, hs⟩, _, _⟩ := I.hok d _ h
  rw [hd] at ho
  cases ho
  refine ⟨hs, hd, hx, ents, ep, hdt, ?_, fun i k b y e => ?_⟩
  · have l1 := congrArg List.length he
    have l2 : es.length = xs.length := Paired.length pr
    rw [List.length_map, Array.length_toList] at l1
    omega
  · obtain ⟨q, e1, e2, e3⟩ := esxs_get pr e
    have q2 : ents.toList[i]? = some ⟨q.1.hash X.w, .ref q.2.1, q.2.2⟩ := by rw [he, List.getElem?_map, e1]; rfl
    rw [Array.getElem?_toList] at q2
    exact ⟨_, q2, by rw [← e2], e3⟩
end
def ItmI (w : World) (d : Addr) (o : Obj) (es : List (NestedKey × Addr × V)) : It :=
  ⟨fun i H => H d = some (.frz o (DictO w d es)) ∧ i < es.length, fun i H x H' => ∃ T k b v, es[i]? = some (k, b, v) ∧ x = .ref T ∧ H T = none ∧ H' = upd H T (.tup [.ref b, v]), fun i H => H d = some (.frz o (DictO w d es)) ∧ es.length ≤ i⟩
def ItmK (w : World) (d : Addr) (o : Obj) (es : List (NestedKey × Addr × V)) : It :=
  ⟨fun i H => H d = some (.frz o (DictO w d es)) ∧ i < es.length, fun i H x H' => H' = H ∧ ∃ k b v, es[i]? = some (k, b, v) ∧ x = .ref b, fun i H => H d = some (.frz o (DictO w d es)) ∧ es.length ≤ i⟩
section
variable {P : Program} {w : World} {K : PySem.W.Frag} {tg : Expr} {d : Addr} {o : Obj} {ents : Array DictEntry} {ep : Nat} {es : List (NestedKey × Addr × V)}
theorem turn_mkeys (it : Addr) (hod : o.data = .dict ents ep) : Turn P w K tg (ItmK w d o es) [it] it (fun i h => h.IsKeyIter it d i es.length ep) where
  mem := by simp
  obj := fun i h st b hb => by
    have e : b = it := by simpa using hb
    subst e
    obtain ⟨oi, e, c, dd⟩ := st
    exact ⟨oi, e, fun v z => by rw [dd] at z; cases z⟩
  keep := fun i h h' st k => st.at fun oi e => k it (by simp) oi e
  item := by
    intro X hP hw hK hc i pins s σ H E I hf st hg
    subst hP hw hK
    obtain ⟨hd, hi⟩ := hg
    obtain ⟨f0, f1, f2, f3, f4, f5⟩ := hf it (by simp)
    obtain ⟨hs, hgd, hx, es', ep', hdt, hsz, ent⟩ := frz_raw I hd
    obtain ⟨rfl, rfl⟩ := dict_ep hod hdt
    obtain ⟨⟨k, b, v⟩, hkv⟩ : ∃ p, es[i]? = some p := ⟨es[i], List.getElem?_eq_getElem hi⟩
    obtain ⟨en, hen, hkey, _⟩ := ent i k b v hkv
    refine next_key_item st hgd hdt hsz hen fun h' st' sb => ?_
    have I1 : Inv X pins σ H { s with heap := h' } := I.turned (t' := s.toks) (fun b ob hb e => (sb.2 b hb).trans e) f0 f1 f3 f4 f5
    obtain ⟨oi, e, c, dd⟩ := id st'
    exact ⟨en.key, rfl, go_of (s := { s with heap := h' }) e c dd (by decide) ⟨.ref b, H, I1, hkey, ⟨rfl, k, b, v, hkv, rfl⟩, st', fun b hb => (hf b hb).1⟩⟩
  done := by
    intro X hP hw hK hc i pins s σ H E I hf st hg
    subst hP hw hK
    obtain ⟨hd, hi⟩ := hg
    obtain ⟨f0, f1, f2, f3, f4, f5⟩ := hf it (by simp)
    obtain ⟨hs, hgd, hx, es', ep', hdt, hsz, ent⟩ := frz_raw I hd
    obtain ⟨rfl, rfl⟩ := dict_ep hod hdt
    exact next_key_end (I.ok.hd hc) st hgd hdt hsz hi fun h' eb => ⟨rfl, I.turned (t' := s.toks) (fun b ob hb e => eb b ob hb e) f0 f1 f3 f4 f5⟩
  self := fun A i s Q E st h => by
    refine wpAny_pyIter_slot st.typeIs PySem.F.slot_dict_keyiterator_iter (wpAny_call_entry PySem.F.slot_dict_keyiterator_iter st.typeIs PySem.F.entry_dict_keyiterator_iter ?_ (PySem.F.args_dict_keyiterator_iter_1 _))
    show wpAny _ _ (PySem.ret (.ref it)) _ _ s
    exact wpAny_pure ⟨_, rfl, "dict_keyiterator", _, st.typeIs, PySem.F.slot_dict_keyiterator_next.lookup, h⟩
theorem turn_mitems {elts : List Expr} {kk : Nat} {tpos : Pos} (it : Addr) (hod : o.data = .dict ents ep) (hsz0 : ents.size = es.length) :
    Turn P w K (.Tuple elts kk tpos) (ItmI w d o es) [it] it (fun i h => ∃ ok ov, IsItemIter h it d i ents.size ep ok ov) where
  mem := by simp
  obj := fun i h st b hb => by
    have e : b = it := by simpa using hb
    subst e
    obtain ⟨ok, ov, e⟩ := st
    exact ⟨_, e, fun v z => nomatch z⟩
  keep := fun i h h' st k => let ⟨ok, ov, e⟩ := st; ⟨ok, ov, k it (by simp) _ e⟩
  item := by
    intro X hP hw hK hc i pins s σ H E I hf st hg
    subst hP hw hK
    obtain ⟨hd, hi⟩ := hg
    obtain ⟨hs, hgd, hx, es', ep', hdt, hsz, ent⟩ := frz_raw I hd
    obtain ⟨rfl, rfl⟩ := dict_ep hod hdt
    obtain ⟨⟨k, b, v⟩, hkv⟩ : ∃ p, es[i]? = some p := ⟨es[i], List.getElem?_eq_getElem hi⟩
    obtain ⟨en, hen, hkey, hval⟩ := ent i k b v hkv
    obtain ⟨ok, ov, he⟩ := st
    have hlt : it < s.heap.objs.size := Heap.lt_size he
    have hi2 : i < es'.size := by rw [hsz]; exact hi
    have hat : es'[i] = en := by
      rw [Array.getElem?_eq_getElem hi2] at hen
      exact Option.some.inj hen
    refine DT.nextI he ⟨o, hgd, hx, hdt⟩ hi2 fun h' ho hT hz hk => ?_
    rw [hat] at ho hT
    refine ⟨_, rfl, wpAny_letOwnedTupleGo_items (s := { s with heap := h' }) ho fun h'' he' sb => ?_⟩
    have hT2 : h''.get? s.heap.objs.size = some { cls := .type "tuple", data := .seq #[en.key, en.val] } := (sb.2 _ (Nat.ne_of_gt hlt)).trans hT
    have new : ObjOk X.prog X.w (upd H s.heap.objs.size (.tup [.ref b, v])) h'' s.heap.objs.size (.tup [.ref b, v]) :=
      ⟨by show 2 ≤ sizeLine; decide, [en.key, en.val], .cons hkey (.cons hval .nil), ⟨_, hT2, rfl, _, rfl⟩⟩
    have I1 : Inv X pins σ (upd H s.heap.objs.size (.tup [.ref b, v])) { s with heap := h'' } :=
      I.turnedNew (t' := s.toks) (ch := [it]) (fun b ob hb e => (sb.2 b (by simpa using hb)).trans (hk b ob (by simpa using hb) e)) hf (Nat.le_refl _) new
    refine ⟨.ref s.heap.objs.size, _, I1, rfl, ⟨_, k, b, v, hkv, rfl, I.hok.fresh (Nat.le_refl _), rfl⟩, ⟨en.key, en.val, he'⟩, fun b hb => ?_⟩
    have e : b = it := by simpa using hb
    rw [e, upd_ne (Nat.ne_of_lt hlt)]
    exact (hf it (by simp)).1
  done := by
    intro X hP hw hK hc i pins s σ H E I hf st hg
    subst hP hw hK
    obtain ⟨hd, hi⟩ := hg
    obtain ⟨f0, f1, f2, f3, f4, f5⟩ := hf it (by simp)
    obtain ⟨hs, hgd, hx, es', ep', hdt, hsz, ent⟩ := frz_raw I hd
    obtain ⟨rfl, rfl⟩ := dict_ep hod hdt
    obtain ⟨ok, ov, he⟩ := st
    exact DT.endI (I.ok.hd hc) he ⟨o, hgd, hx, hdt⟩ (by rw [hsz]; exact hi) fun h' eb => ⟨rfl, I.turned (t' := s.toks) (fun b ob hb e => eb b ob hb e) f0 f1 f3 f4 f5⟩
  self := fun A i s Q E st h => let ⟨_, _, e⟩ := st; PySem.W.kcp_self e h
end
section
variable {X : Cx} {tg e : Expr} {td : TE} {apos cpos : Pos}
def iMKeys (w : World) (td : TE) : TI := fun σ H R => td σ H fun x H1 => ∃ d o es, x = .ref d ∧ H1 d = some (.frz o (DictO w d es)) ∧ R (ItmK w d o es) H1
def iMItems (w : World) (td : TE) : TI := fun σ H R => td σ H fun x H1 => ∃ d o es, x = .ref d ∧ H1 d = some (.frz o (DictO w d es)) ∧ R (ItmI w d o es) H1
theorem pi_mkeys {w : World} (hw : X.w = w) (he : PE X e td) : PI X tg e (iMKeys w td) := by
  subst hw
  refine ⟨fun pins s σ H R I h => ?_⟩
  refine thn (he.run pins s σ H _ I h) fun u s1 ⟨x, H1, I1, rx, d, o, es, ex, hd, q⟩ => ?_
  subst ex
  obtain rfl : u = Value.ref d := rx
  obtain ⟨hs, hgd, hx, ents, ep, hdt, hsz, ent⟩ := frz_raw I1 hd
  refine iter_keys hs hgd hx hdt (pi_one (tk := s1.toks) I1 _ (turn_mkeys _ hdt) ⟨_, Heap.get?_push_size _ rfl, rfl, ?_⟩ q)
  rw [hsz] <;> rfl
theorem pi_mitems {w : World} {elts : List Expr} {kk : Nat} {tpos : Pos} (hw : X.w = w) (he : PE X e td) (hbase : attributeBase e "items" X.env (eval e X.env) = eval e X.env := by rfl) (hline : (apos.endLine == cpos.line) = true := by rfl) :
    PI X (.Tuple elts kk tpos) (.Call (.Attribute e "items" apos) [] [] cpos) (iMItems w td) := by
  subst hw
  refine ⟨fun pins s σ H R I h => ?_⟩
  refine wpAny_Call_method (T := "dict") (id := "dict.items") hbase rfl hline PySem.F.plainAttrs_dict PySem.F.slot_dict_items PySem.F.type_dict_items (thn (he.run pins s σ H _ I h) fun u s1 ⟨x, H1, I1, rx, d, o, es, ex, hd, q⟩ => ?_)
  subst ex
  obtain rfl : u = Value.ref d := rx
  obtain ⟨hs, hgd, hx, ents, ep, hdt, hsz, ent⟩ := frz_raw I1 hd
  have raw : DT.Raw s1.heap d ents ep := ⟨o, hgd, hx, hdt⟩
  refine ⟨raw.typeIs, fun b hb => ?_, ?_⟩
  · cases hb
    exact ⟨o, hgd, hx.2.1⟩
  have I2 : Inv X pins σ H1 { s1 with heap := s1.heap.push { cls := .type "dict_items", data := .fields #[.ref d] } } := I1.kept (t' := s1.toks) fun b ob q => Heap.get?_push_of_some _ q
  have fin : wpAny (model X.prog X.w) X.A (pyIter (.ref s1.heap.objs.size)) (PIE X pins σ (.Tuple elts kk tpos) R) X.xe { s1 with heap := s1.heap.push { cls := .type "dict_items", data := .fields #[.ref d] } } := by
    refine DT.iterI (d := d) ⟨_, Heap.get?_push_size _ rfl, rfl, rfl⟩ (raw.push _) (pi_one (tk := s1.toks) I2 _ (turn_mitems _ hdt hsz) ⟨.none, .none, ?_⟩ q)
    exact Heap.get?_push_size _ rfl
  show wpAny _ _ (callWith cpos (.builtin "dict.items") [.ref d] [] []) _ X.xe s1
  exact method_meetsIn PySem.F.slot_dict_items PySem.F.entry_dict_items rfl (PySem.evalArgs_none ⟨rfl, raw.typeIs, PySem.F.args_dict_items_1 _, _, DT.meetsItems (es := ents) (ep := ep) hs, raw, fin⟩)
end
section
variable {K : PySem.W.Frag} {H : Hp}
theorem RepKV.get : ∀ {kvs : List (D × D)} {es : List (NestedKey × Addr × V)}, RepKV K H kvs es → ∀ {i : Nat} {k : NestedKey} {b : Addr} {v : V}, es[i]? = some (k, b, v) → ∃ kd d, kvs[i]? = some (kd, d) ∧ Rep K H kd (.ref b) ∧ Rep K H d v
  | _, _, .nil, i, k, b, v, e => by simp at e
  | _, _, .cons a b c d t, 0, k, b', v, e => by
    simp only [List.getElem?_cons_zero, Option.some.injEq] at e
    cases e
    exact ⟨_, _, rfl, a, d⟩
  | _, _, .cons a b c d t, i + 1, k, b', v, e => by
    simp only [List.getElem?_cons_succ] at e ⊢
    exact t.get e
theorem stream_mitems {w : World} {a : Addr} {ob : Obj} {kvs : List (D × D)} {es : List (NestedKey × Addr × V)} (h : H a = some (.frz ob (DictO w a es))) (hz : es.length ≤ sizeLine) (l : RepKV K H kvs es) : Stream K (ItmI w a ob es) (kvs.map pairD, none) H := by
  have hl : (kvs.map pairD).length = es.length := by rw [List.length_map, l.len]
  refine ⟨by show (kvs.map pairD).length ≤ sizeLine; rw [hl]; exact hz, fun i H1 ok hi => ⟨ok.1.frzs _ _ _ h, ?_⟩, fun i H1 x H2 ok hi y => ?_, fun H1 ok => ⟨ok.1.frzs _ _ _ h, ?_⟩⟩
  · rw [← hl]; exact hi
  · obtain ⟨T, k, b, v, e2, e3, e4, e5⟩ := y
    subst e3
    subst e5
    obtain ⟨kd, d, h1, h2, h3⟩ := l.get e2
    refine ⟨.new e4, fun _ q => q.new e4, pairD (kd, d), by rw [List.getElem?_map, h1]; rfl, ?_⟩
    exact .tup (.of upd_same) (by show 2 ≤ sizeLine; rw [sizeLine_eq]; omega) (.cons ((h2.grow ok.1).grow (.new e4)) (.cons ((h3.grow ok.1).grow (.new e4)) .nil))
  · show es.length ≤ (kvs.map pairD).length
    omega
theorem stream_mkeys {w : World} {a : Addr} {ob : Obj} {kvs : List (D × D)} {es : List (NestedKey × Addr × V)} (h : H a = some (.frz ob (DictO w a es))) (hz : es.length ≤ sizeLine) (l : RepKV K H kvs es) : Stream K (ItmK w a ob es) (kvs.map (·.1), none) H := by
  have hl : (kvs.map (·.1)).length = es.length := by rw [List.length_map, l.len]
  refine ⟨by show (kvs.map (·.1)).length ≤ sizeLine; rw [hl]; exact hz, fun i H1 ok hi => ⟨ok.1.frzs _ _ _ h, ?_⟩, fun i H1 x H2 ok hi y => ?_, fun H1 ok => ⟨ok.1.frzs _ _ _ h, ?_⟩⟩
  · rw [← hl]; exact hi
  · obtain ⟨e1, k, b, v, e2, e3⟩ := y
    subst e1
    subst e3
    obtain ⟨kd, d, h1, h2, h3⟩ := l.get e2
    exact ⟨.refl _, fun _ q => q, kd, by rw [List.getElem?_map, h1]; rfl, h2.grow ok.1⟩
  · show es.length ≤ (kvs.map (·.1)).length
    omega
end
section
variable {X : Cx} {tg e : Expr} {te : DTE} {apos cpos : Pos}
def diMKeys (w : World) (te : DTE) : DTI := fun m M Q => te m M fun d M1 => ∃ kvs, d = .dmt w kvs ∧ Q (kvs.map (·.1), none) M1
def diMItems (w : World) (te : DTE) : DTI := fun m M Q => te m M fun d M1 => ∃ kvs, d = .dmt w kvs ∧ Q (kvs.map pairD, none) M1
theorem di_mkeys {w : World} (hw : X.w = w) (he : DE X e te) : DI X tg e (diMKeys w te) :=
  imI (pi_mkeys hw he) fun σ H Q ⟨m, M, Q', r, q, k⟩ => by
    refine ⟨m, M, _, r, q, fun d v M1 H1 g1 r1 m1 ⟨kvs, e, q1⟩ => ?_⟩
    subst e
    cases r1 with
    | dmt h z l => exact ⟨_, _, _, rfl, h, k _ M1 H1 _ g1 m1 q1 (stream_mkeys h z l)⟩
theorem di_mitems {w : World} {elts : List Expr} {kk : Nat} {tpos : Pos} (hw : X.w = w) (he : DE X e te) (hbase : attributeBase e "items" X.env (eval e X.env) = eval e X.env := by rfl) (hline : (apos.endLine == cpos.line) = true := by rfl) :
    DI X (.Tuple elts kk tpos) (.Call (.Attribute e "items" apos) [] [] cpos) (diMItems w te) :=
  imI (pi_mitems hw he hbase hline) fun σ H Q ⟨m, M, Q', r, q, k⟩ => by
    refine ⟨m, M, _, r, q, fun d v M1 H1 g1 r1 m1 ⟨kvs, e, q1⟩ => ?_⟩
    subst e
    cases r1 with
    | dmt h z l => exact ⟨_, _, _, rfl, h, k _ M1 H1 _ g1 m1 q1 (stream_mitems h z l)⟩
end
end DL
namespace Law
open PySem PySem.Spec PyProof.Rows L2 DL
local macro_rules | `(tactic| walk_at "rd") => `(tactic| simp only [dSeq, dSet, dIf, dTst, dOp, dVar, dC, dRet, dRetN, dNext, dDrop, dBreak, dCont, dAnd, dOr, dNot, dAndV, dOrV, dNotV, dIfE, dTup, dLstF, dLst, dCons, dNil, dCB, dCall, dUn, dNegI, dI, dI0, dEq, dNe, dIs, dIsNot, dIn, dNotIn, dIx, isN_non, isN_bl, isN_int, isN_str, isN_tup, isN_lst, isN_rf, DL.rLen, rInt, rAbs, rMax2, rMin2, DL.rGcd, rTuple, rList, rIs, rIsT, ar0, ar1, ar2, ar3, ar4, ar5, ar6, ar7, ar8, dEnds, dMt, dMt0, mAppend, mPop, mReverse, dSetL, dPut, dAsg, dgName, dgTup, dgCons, dgNil, dFor, diSeq, diRng1, diRng2, dLcF, dLc, dwipe, dFz, dstart, List.map_cons, List.map_nil, List.length_cons, List.length_nil, List.cons_append, List.nil_append, List.append_nil, List.replicate, Nat.reduceAdd, Nat.reduceSub, Nat.reduceLeDiff, Int.reduceNeg, List.set_cons_zero, List.set_cons_succ, List.getElem?_cons_zero, List.getElem?_cons_succ, Option.some.injEq, exists_eq_left', exists_eq_left, exists_eq_right, exists_eq, exists_and_left, exists_and_right, D.int.injEq, D.bl.injEq, D.str.injEq, D.tup.injEq, D.lst.injEq, D.ref.injEq, D.ty.injEq, D.dct.injEq, List.cons.injEq, and_assoc, and_true, true_and, and_self, reduceCtorEq, false_and, and_false, if_true, if_false, if_pos, ite_true, ite_false, Bool.false_eq_true, decide_eq_true_eq, Bool.not_eq_true', decide_eq_false_iff_not, Bool.not_true, Bool.not_false, decide_true, decide_false, eqv_int, eqv_str, eqv_bl, dOk_int, dOk_bl, dOk_non, dOk_tup, dOk_lst, dOk_str, List.all_cons, List.all_nil, Bool.and_true, Bool.true_and, Bool.and_self, dItems_tup, dItems_lst, dItems_rf, CMulA, CDivA, CPowA, Int.reduceLT, Int.reduceLE, Int.reducePow, Int.reduceToNat, Int.reduceMul, Int.reduceAdd, Int.reduceSub, Nat.reducePow, true_or, or_true, ne_eq, not_false_eq_true, not_true_eq_false, dAt_tup, dAt_lst, dAt_rf, dLenOf_tup, dLenOf_lst, dLenOf_rf, dLenOf_str, dTyN_non, dTyN_bl, dTyN_int, dTyN_str, dTyN_tup, dTyN_lst, dTyN_dct, dTyN_rf, dIntOf_int, dIntOf_bl, knownT, subT, atI_0, atI_1, atI_2, atI_3, atI_4, atI_5, atI_neg1, mput_same, mput_mput, eqv_non, tyNames, Option.map_some, String.reduceBEq, Bool.or_true, Bool.true_or, Bool.or_false, Bool.false_or, Bool.false_and, Bool.and_false, beq_self_eq_true, BEq.rfl, List.any_cons, List.any_nil, sizeLine_eq, rLenB, Bool.true_eq_false, implies_true, Nat.zero_le, Bool.or_self, String.reduceEq, dAdd_ii, dAdd_ss, dAdd_tt, dMulA_ii, dMulA_si, dIxS_str, dIxS_tup, dIxS_lst, dIxS_ref, dCat, dCatF, dRep, dSl, dNoP, dPart, dJoin, mExtend, mIndex, rAnyL, rAllL, rSumL, rMaxL, rMinL, dLRg, diEnum, rSortD, dLc2F, dLc2, dYes, diEnumT, dSlS, rSortK, dFzS, dTupRev, diRev, diZip, dMulT, zipD, dDc, dDGet1, dLtD, dGtD, rListK, dUpper, diStr, dInS, dSortL, dSortSet, dStar, rIntS, rStrI, dKIx, dKIn, dKNotIn, rLenK, dKNew, dFzK, dFzD, dKPut, diKeys, diVals, diItems, mInsert, mPopAt, dKGet1, dKGet2, dKc, dDict_dct, dDict_put, isKb_int, isKb_str, true_implies, false_implies, dDIx, dDIn, dDNotIn, dSetD, dDNew, dSortLen, sortLenB, rSortO, dMIx, dMIn, dMNotIn, dMGet2, diMItems, diMKeys, dFzM, dFzMS, dDSetDf, dDGet2])
local macro_rules | `(tactic| walk_at "st") => `(tactic| (refine seq_i ?_; simp only [dSet, dIf, dTst, dOp, dVar, dC, dRet, dRetN, dNext, dDrop, dBreak, dCont, dAnd, dOr, dNot, dAndV, dOrV, dNotV, dIfE, dTup, dLstF, dLst, dCons, dNil, dCB, dCall, dUn, dNegI, dI, dI0, dEq, dNe, dIs, dIsNot, dIn, dNotIn, dIx, isN_non, isN_bl, isN_int, isN_str, isN_tup, isN_lst, isN_rf, DL.rLen, rInt, rAbs, rMax2, rMin2, DL.rGcd, rTuple, rList, rIs, rIsT, ar0, ar1, ar2, ar3, ar4, ar5, ar6, ar7, ar8, dEnds, dMt, dMt0, mAppend, mPop, mReverse, dSetL, dPut, dAsg, dgName, dgTup, dgCons, dgNil, dFor, diSeq, diRng1, diRng2, dLcF, dLc, dwipe, dFz, dstart, List.map_cons, List.map_nil, List.length_cons, List.length_nil, List.cons_append, List.nil_append, List.append_nil, List.replicate, Nat.reduceAdd, Nat.reduceSub, Nat.reduceLeDiff, Int.reduceNeg, List.set_cons_zero, List.set_cons_succ, List.getElem?_cons_zero, List.getElem?_cons_succ, Option.some.injEq, exists_eq_left', exists_eq_left, exists_eq_right, exists_eq, exists_and_left, exists_and_right, D.int.injEq, D.bl.injEq, D.str.injEq, D.tup.injEq, D.lst.injEq, D.ref.injEq, D.ty.injEq, D.dct.injEq, List.cons.injEq, and_assoc, and_true, true_and, and_self, reduceCtorEq, false_and, and_false, if_true, if_false, if_pos, ite_true, ite_false, Bool.false_eq_true, decide_eq_true_eq, Bool.not_eq_true', decide_eq_false_iff_not, Bool.not_true, Bool.not_false, decide_true, decide_false, eqv_int, eqv_str, eqv_bl, dOk_int, dOk_bl, dOk_non, dOk_tup, dOk_lst, dOk_str, List.all_cons, List.all_nil, Bool.and_true, Bool.true_and, Bool.and_self, dItems_tup, dItems_lst, dItems_rf, CMulA, CDivA, CPowA, Int.reduceLT, Int.reduceLE, Int.reducePow, Int.reduceToNat, Int.reduceMul, Int.reduceAdd, Int.reduceSub, Nat.reducePow, true_or, or_true, ne_eq, not_false_eq_true, not_true_eq_false, dAt_tup, dAt_lst, dAt_rf, dLenOf_tup, dLenOf_lst, dLenOf_rf, dLenOf_str, dTyN_non, dTyN_bl, dTyN_int, dTyN_str, dTyN_tup, dTyN_lst, dTyN_dct, dTyN_rf, dIntOf_int, dIntOf_bl, knownT, subT, atI_0, atI_1, atI_2, atI_3, atI_4, atI_5, atI_neg1, mput_same, mput_mput, eqv_non, tyNames, Option.map_some, String.reduceBEq, Bool.or_true, Bool.true_or, Bool.or_false, Bool.false_or, Bool.false_and, Bool.and_false, beq_self_eq_true, BEq.rfl, List.any_cons, List.any_nil, sizeLine_eq, rLenB, Bool.true_eq_false, implies_true, Nat.zero_le, Bool.or_self, String.reduceEq, dAdd_ii, dAdd_ss, dAdd_tt, dMulA_ii, dMulA_si, dIxS_str, dIxS_tup, dIxS_lst, dIxS_ref, dCat, dCatF, dRep, dSl, dNoP, dPart, dJoin, mExtend, mIndex, rAnyL, rAllL, rSumL, rMaxL, rMinL, dLRg, diEnum, rSortD, dLc2F, dLc2, dYes, diEnumT, dSlS, rSortK, dFzS, dTupRev, diRev, diZip, dMulT, zipD, dDc, dDGet1, dLtD, dGtD, rListK, dUpper, diStr, dInS, dSortL, dSortSet, dStar, rIntS, rStrI, dKIx, dKIn, dKNotIn, rLenK, dKNew, dFzK, dFzD, dKPut, diKeys, diVals, diItems, mInsert, mPopAt, dKGet1, dKGet2, dKc, dDict_dct, dDict_put, isKb_int, isKb_str, true_implies, false_implies, dDIx, dDIn, dDNotIn, dSetD, dDNew, dSortLen, sortLenB, rSortO, dMIx, dMIn, dMNotIn, dMGet2, diMItems, diMKeys, dFzM, dFzMS, dDSetDf, dDGet2]))
local macro_rules | `(tactic| walk_at "p") => `(tactic| simp only [dRet, dOp, dVar, dCall, dCB, dCons, dNil, ar0, ar1, ar2, ar3, ar4, ar5, DL.rLen, dIx, dEnds, dstart, List.map_cons, List.map_nil, List.length_cons, List.length_nil, List.cons_append, List.nil_append, List.replicate, Nat.reduceAdd, Nat.reduceSub, Nat.reduceLeDiff, List.getElem?_cons_zero, List.getElem?_cons_succ, Option.some.injEq, exists_eq_left', exists_eq_left, exists_and_left, exists_and_right, List.cons.injEq, and_assoc, and_true, true_and, D.ref.injEq, D.int.injEq])
local macro_rules | `(tactic| walk_at "s1") => `(tactic| simp only [dSet, dIf, dTst, dOp, dVar, dC, dRet, dRetN, dNext, dDrop, dBreak, dCont, dAnd, dOr, dNot, dAndV, dOrV, dNotV, dIfE, dTup, dLstF, dLst, dCons, dNil, dCB, dCall, dUn, dNegI, dI, dI0, dEq, dNe, dIs, dIsNot, dIn, dNotIn, dIx, isN_non, isN_bl, isN_int, isN_str, isN_tup, isN_lst, isN_rf, DL.rLen, rInt, rAbs, rMax2, rMin2, DL.rGcd, rTuple, rList, rIs, rIsT, ar0, ar1, ar2, ar3, ar4, ar5, ar6, ar7, ar8, dEnds, dMt, dMt0, mAppend, mPop, mReverse, dSetL, dPut, dAsg, dgName, dgTup, dgCons, dgNil, dFor, diSeq, diRng1, diRng2, dLcF, dLc, dwipe, dFz, dstart, List.map_cons, List.map_nil, List.length_cons, List.length_nil, List.cons_append, List.nil_append, List.append_nil, List.replicate, Nat.reduceAdd, Nat.reduceSub, Nat.reduceLeDiff, Int.reduceNeg, List.set_cons_zero, List.set_cons_succ, List.getElem?_cons_zero, List.getElem?_cons_succ, Option.some.injEq, exists_eq_left', exists_eq_left, exists_eq_right, exists_eq, exists_and_left, exists_and_right, D.int.injEq, D.bl.injEq, D.str.injEq, D.tup.injEq, D.lst.injEq, D.ref.injEq, D.ty.injEq, D.dct.injEq, List.cons.injEq, and_assoc, and_true, true_and, and_self, reduceCtorEq, false_and, and_false, if_true, if_false, if_pos, ite_true, ite_false, Bool.false_eq_true, decide_eq_true_eq, Bool.not_eq_true', decide_eq_false_iff_not, Bool.not_true, Bool.not_false, decide_true, decide_false, eqv_int, eqv_str, eqv_bl, dOk_int, dOk_bl, dOk_non, dOk_tup, dOk_lst, dOk_str, List.all_cons, List.all_nil, Bool.and_true, Bool.true_and, Bool.and_self, dItems_tup, dItems_lst, dItems_rf, CMulA, CDivA, CPowA, Int.reduceLT, Int.reduceLE, Int.reducePow, Int.reduceToNat, Int.reduceMul, Int.reduceAdd, Int.reduceSub, Nat.reducePow, true_or, or_true, ne_eq, not_false_eq_true, not_true_eq_false, dAt_tup, dAt_lst, dAt_rf, dLenOf_tup, dLenOf_lst, dLenOf_rf, dLenOf_str, dTyN_non, dTyN_bl, dTyN_int, dTyN_str, dTyN_tup, dTyN_lst, dTyN_dct, dTyN_rf, dIntOf_int, dIntOf_bl, knownT, subT, atI_0, atI_1, atI_2, atI_3, atI_4, atI_5, atI_neg1, mput_same, mput_mput, eqv_non, tyNames, Option.map_some, String.reduceBEq, Bool.or_true, Bool.true_or, Bool.or_false, Bool.false_or, Bool.false_and, Bool.and_false, beq_self_eq_true, BEq.rfl, List.any_cons, List.any_nil, sizeLine_eq, rLenB, Bool.true_eq_false, implies_true, Nat.zero_le, Bool.or_self, String.reduceEq, dAdd_ii, dAdd_ss, dAdd_tt, dMulA_ii, dMulA_si, dIxS_str, dIxS_tup, dIxS_lst, dIxS_ref, dCat, dCatF, dRep, dSl, dNoP, dPart, dJoin, mExtend, mIndex, rAnyL, rAllL, rSumL, rMaxL, rMinL, dLRg, diEnum, rSortD, dLc2F, dLc2, dYes, diEnumT, dSlS, rSortK, dFzS, dTupRev, diRev, diZip, dMulT, zipD, dDc, dDGet1, dLtD, dGtD, rListK, dUpper, diStr, dInS, dSortL, dSortSet, dStar, rIntS, rStrI, dKIx, dKIn, dKNotIn, rLenK, dKNew, dFzK, dFzD, dKPut, diKeys, diVals, diItems, mInsert, mPopAt, dKGet1, dKGet2, dKc, dDict_dct, dDict_put, isKb_int, isKb_str, true_implies, false_implies, dDIx, dDIn, dDNotIn, dSetD, dDNew, dSortLen, sortLenB, rSortO, dMIx, dMIn, dMNotIn, dMGet2, diMItems, diMKeys, dFzM, dFzMS, dDSetDf, dDGet2])
section
variable {P : Program} {w : World} {K : PySem.W.Frag} {mg : Str → Option Value} {base : Heap} {tb : Addr}
def topS (i : Nat) : Stmt := PySem.Challenge.pw_doubtbook_k08_cut_reports_and_told_rows.main.body.getD i (.Pass ⟨0, 0, 0, 0⟩)
abbrev s_value_key : Stmt := topS 1
abbrev N_value_key : List Str := ["value"]
theorem sc_value_key : FnScope N_value_key ["value"] (defScope s_value_key) := ⟨rfl, rfl, rfl, by decide +kernel, rfl, by decide +kernel, by decide +kernel⟩
abbrev s_row_key : Stmt := topS 2
abbrev N_row_key : List Str := ["row", "value"]
theorem sc_row_key : FnScope N_row_key ["row"] (defScope s_row_key) := ⟨rfl, rfl, rfl, by decide +kernel, rfl, by decide +kernel, by decide +kernel⟩
abbrev s_sorted_rows : Stmt := topS 3
abbrev N_sorted_rows : List Str := ["rows", "found", "row"]
theorem sc_sorted_rows : FnScope N_sorted_rows ["rows"] (defScope s_sorted_rows) := ⟨rfl, rfl, rfl, by decide +kernel, rfl, by decide +kernel, by decide +kernel⟩
abbrev s_table_of : Stmt := topS 5
abbrev N_table_of : List Str := ["schema", "name", "table"]
theorem sc_table_of : FnScope N_table_of ["schema", "name"] (defScope s_table_of) := ⟨rfl, rfl, rfl, by decide +kernel, rfl, by decide +kernel, by decide +kernel⟩
abbrev s_key_of : Stmt := topS 6
abbrev N_key_of : List Str := ["table", "row"]
theorem sc_key_of : FnScope N_key_of ["table", "row"] (defScope s_key_of) := ⟨rfl, rfl, rfl, by decide +kernel, rfl, by decide +kernel, by decide +kernel⟩
abbrev s_place_of : Stmt := topS 7
abbrev N_place_of : List Str := ["schema", "name", "row"]
theorem sc_place_of : FnScope N_place_of ["schema", "name", "row"] (defScope s_place_of) := ⟨rfl, rfl, rfl, by decide +kernel, rfl, by decide +kernel, by decide +kernel⟩
abbrev s_later_end : Stmt := topS 9
abbrev N_later_end : List Str := ["end", "other"]
theorem sc_later_end : FnScope N_later_end ["end", "other"] (defScope s_later_end) := ⟨rfl, rfl, rfl, by decide +kernel, rfl, by decide +kernel, by decide +kernel⟩
abbrev s_earlier_end : Stmt := topS 10
abbrev N_earlier_end : List Str := ["end", "other"]
theorem sc_earlier_end : FnScope N_earlier_end ["end", "other"] (defScope s_earlier_end) := ⟨rfl, rfl, rfl, by decide +kernel, rfl, by decide +kernel, by decide +kernel⟩
abbrev s_span_of : Stmt := topS 11
abbrev N_span_of : List Str := ["stretches", "span", "begin", "end"]
theorem sc_span_of : FnScope N_span_of ["stretches"] (defScope s_span_of) := ⟨rfl, rfl, rfl, by decide +kernel, rfl, by decide +kernel, by decide +kernel⟩
abbrev s_has : Stmt := topS 12
abbrev N_has : List Str := ["span", "moment", "begin", "end"]
theorem sc_has : FnScope N_has ["span", "moment"] (defScope s_has) := ⟨rfl, rfl, rfl, by decide +kernel, rfl, by decide +kernel, by decide +kernel⟩
abbrev s_met : Stmt := topS 13
abbrev N_met : List Str := ["span", "other", "found", "here", "there", "begin", "end"]
theorem sc_met : FnScope N_met ["span", "other"] (defScope s_met) := ⟨rfl, rfl, rfl, by decide +kernel, rfl, by decide +kernel, by decide +kernel⟩
abbrev s_rest : Stmt := topS 14
abbrev N_rest : List Str := ["span", "found", "begin", "start", "end"]
theorem sc_rest : FnScope N_rest ["span"] (defScope s_rest) := ⟨rfl, rfl, rfl, by decide +kernel, rfl, by decide +kernel, by decide +kernel⟩
abbrev s_without : Stmt := topS 15
abbrev N_without : List Str := ["span", "other"]
theorem sc_without : FnScope N_without ["span", "other"] (defScope s_without) := ⟨rfl, rfl, rfl, by decide +kernel, rfl, by decide +kernel, by decide +kernel⟩
abbrev s_verdicts_by_place : Stmt := topS 17
abbrev N_verdicts_by_place : List Str := ["schema", "verdicts", "found", "verdict"]
theorem sc_verdicts_by_place : FnScope N_verdicts_by_place ["schema", "verdicts"] (defScope s_verdicts_by_place) := ⟨rfl, rfl, rfl, by decide +kernel, rfl, by decide +kernel, by decide +kernel⟩
abbrev s_cut_span : Stmt := topS 18
abbrev N_cut_span : List Str := ["report", "verdicts", "lost", "verdict", "stretch"]
theorem sc_cut_span : FnScope N_cut_span ["report", "verdicts"] (defScope s_cut_span) := ⟨rfl, rfl, rfl, by decide +kernel, rfl, by decide +kernel, by decide +kernel⟩
abbrev s_cut_reports : Stmt := topS 19
abbrev N_cut_reports : List Str := ["schema", "told", "believed", "found", "report", "span"]
theorem sc_cut_reports : FnScope N_cut_reports ["schema", "told"] (defScope s_cut_reports) := ⟨rfl, rfl, rfl, by decide +kernel, rfl, by decide +kernel, by decide +kernel⟩
abbrev s_told_rows : Stmt := topS 20
abbrev N_told_rows : List Str := ["schema", "told", "name", "key", "moment", "table", "rows", "number", "source", "other", "row", "span"]
theorem sc_told_rows : FnScope N_told_rows ["schema", "told", "name", "key", "moment"] (defScope s_told_rows) := ⟨rfl, rfl, rfl, by decide +kernel, rfl, by decide +kernel, by decide +kernel⟩
abbrev s_l_draws : Stmt := topS 22
abbrev N_l_draws : List Str := ["script", "many", "cells", "left", "draws", "k", "place", "mixed", "cell"]
theorem sc_l_draws : FnScope N_l_draws ["script", "many"] (defScope s_l_draws) := ⟨rfl, rfl, rfl, by decide +kernel, rfl, by decide +kernel, by decide +kernel⟩
abbrev s_l_take : Stmt := topS 23
abbrev N_l_take : List Str := ["draws", "many"]
theorem sc_l_take : FnScope N_l_take ["draws", "many"] (defScope s_l_take) := ⟨rfl, rfl, rfl, by decide +kernel, rfl, by decide +kernel, by decide +kernel⟩
abbrev s_l_pick : Stmt := topS 24
abbrev N_l_pick : List Str := ["draws", "row"]
theorem sc_l_pick : FnScope N_l_pick ["draws", "row"] (defScope s_l_pick) := ⟨rfl, rfl, rfl, by decide +kernel, rfl, by decide +kernel, by decide +kernel⟩
abbrev s_l_same : Stmt := topS 25
abbrev N_l_same : List Str := ["actual", "due", "k"]
theorem sc_l_same : FnScope N_l_same ["actual", "due"] (defScope s_l_same) := ⟨rfl, rfl, rfl, by decide +kernel, rfl, by decide +kernel, by decide +kernel⟩
abbrev s_l_words : Stmt := topS 26
abbrev N_l_words : List Str := ["draws", "many", "words", "k", "size", "word", "j", "other"]
theorem sc_l_words : FnScope N_l_words ["draws", "many"] (defScope s_l_words) := ⟨rfl, rfl, rfl, by decide +kernel, rfl, by decide +kernel, by decide +kernel⟩
abbrev s_l_value_key : Stmt := topS 27
abbrev N_l_value_key : List Str := ["value"]
theorem sc_l_value_key : FnScope N_l_value_key ["value"] (defScope s_l_value_key) := ⟨rfl, rfl, rfl, by decide +kernel, rfl, by decide +kernel, by decide +kernel⟩
abbrev s_l_row_key : Stmt := topS 28
abbrev N_l_row_key : List Str := ["row", "value"]
theorem sc_l_row_key : FnScope N_l_row_key ["row"] (defScope s_l_row_key) := ⟨rfl, rfl, rfl, by decide +kernel, rfl, by decide +kernel, by decide +kernel⟩
abbrev s_l_sorted_rows : Stmt := topS 29
abbrev N_l_sorted_rows : List Str := ["rows", "found", "row"]
theorem sc_l_sorted_rows : FnScope N_l_sorted_rows ["rows"] (defScope s_l_sorted_rows) := ⟨rfl, rfl, rfl, by decide +kernel, rfl, by decide +kernel, by decide +kernel⟩
abbrev s_l_values : Stmt := topS 30
abbrev N_l_values : List Str := ["draws", "words", "number"]
theorem sc_l_values : FnScope N_l_values ["draws", "words"] (defScope s_l_values) := ⟨rfl, rfl, rfl, by decide +kernel, rfl, by decide +kernel, by decide +kernel⟩
abbrev s_l_schema : Stmt := topS 31
abbrev N_l_schema : List Str := ["draws", "words", "forms", "tables"]
theorem sc_l_schema : FnScope N_l_schema ["draws", "words"] (defScope s_l_schema) := ⟨rfl, rfl, rfl, by decide +kernel, rfl, by decide +kernel, by decide +kernel⟩
abbrev s_l_span : Stmt := topS 32
abbrev N_l_span : List Str := ["draws", "great", "begin", "end", "stretches"]
theorem sc_l_span : FnScope N_l_span ["draws", "great"] (defScope s_l_span) := ⟨rfl, rfl, rfl, by decide +kernel, rfl, by decide +kernel, by decide +kernel⟩
abbrev s_l_has : Stmt := topS 33
abbrev N_l_has : List Str := ["span", "moment", "stretch"]
theorem sc_l_has : FnScope N_l_has ["span", "moment"] (defScope s_l_has) := ⟨rfl, rfl, rfl, by decide +kernel, rfl, by decide +kernel, by decide +kernel⟩
abbrev s_l_meet : Stmt := topS 34
abbrev N_l_meet : List Str := ["span", "other", "stretch"]
theorem sc_l_meet : FnScope N_l_meet ["span", "other"] (defScope s_l_meet) := ⟨rfl, rfl, rfl, by decide +kernel, rfl, by decide +kernel, by decide +kernel⟩
abbrev s_l_key_of : Stmt := topS 35
abbrev N_l_key_of : List Str := ["schema", "name", "row", "table"]
theorem sc_l_key_of : FnScope N_l_key_of ["schema", "name", "row"] (defScope s_l_key_of) := ⟨rfl, rfl, rfl, by decide +kernel, rfl, by decide +kernel, by decide +kernel⟩
abbrev s_l_drawn_row : Stmt := topS 36
abbrev N_l_drawn_row : List Str := ["draws", "table", "values", "row", "j"]
theorem sc_l_drawn_row : FnScope N_l_drawn_row ["draws", "table", "values"] (defScope s_l_drawn_row) := ⟨rfl, rfl, rfl, by decide +kernel, rfl, by decide +kernel, by decide +kernel⟩
abbrev s_l_reports : Stmt := topS 37
abbrev N_l_reports : List Str := ["draws", "schema", "values", "sources", "many", "great", "reports", "number", "table", "rival", "k", "row"]
theorem sc_l_reports : FnScope N_l_reports ["draws", "schema", "values", "sources", "many", "great"] (defScope s_l_reports) := ⟨rfl, rfl, rfl, by decide +kernel, rfl, by decide +kernel, by decide +kernel⟩
abbrev s_l_clash : Stmt := topS 38
abbrev N_l_clash : List Str := ["schema", "verdict", "other"]
theorem sc_l_clash : FnScope N_l_clash ["schema", "verdict", "other"] (defScope s_l_clash) := ⟨rfl, rfl, rfl, by decide +kernel, rfl, by decide +kernel, by decide +kernel⟩
abbrev s_l_told : Stmt := topS 39
abbrev N_l_told : List Str := ["draws", "schema", "values", "sources", "most", "great", "reports", "verdicts", "used", "many", "k", "number", "told", "table", "row", "verdict", "report", "n", "other"]
theorem sc_l_told : FnScope N_l_told ["draws", "schema", "values", "sources", "most", "great"] (defScope s_l_told) := ⟨rfl, rfl, rfl, by decide +kernel, rfl, by decide +kernel, by decide +kernel⟩
abbrev s_l_number : Stmt := topS 40
abbrev N_l_number : List Str := ["part"]
theorem sc_l_number : FnScope N_l_number ["part"] (defScope s_l_number) := ⟨rfl, rfl, rfl, by decide +kernel, rfl, by decide +kernel, by decide +kernel⟩
abbrev s_l_is_cut : Stmt := topS 41
abbrev N_l_is_cut : List Str := ["schema", "told", "report", "moment", "verdict"]
theorem sc_l_is_cut : FnScope N_l_is_cut ["schema", "told", "report", "moment"] (defScope s_l_is_cut) := ⟨rfl, rfl, rfl, by decide +kernel, rfl, by decide +kernel, by decide +kernel⟩
abbrev s_l_telling : Stmt := topS 42
abbrev N_l_telling : List Str := ["schema", "told", "moment", "found", "report"]
theorem sc_l_telling : FnScope N_l_telling ["schema", "told", "moment"] (defScope s_l_telling) := ⟨rfl, rfl, rfl, by decide +kernel, rfl, by decide +kernel, by decide +kernel⟩
abbrev s_l_turns : Stmt := topS 43
abbrev N_l_turns : List Str := ["told", "turns", "part", "stretch"]
theorem sc_l_turns : FnScope N_l_turns ["told"] (defScope s_l_turns) := ⟨rfl, rfl, rfl, by decide +kernel, rfl, by decide +kernel, by decide +kernel⟩
abbrev s_l_keys : Stmt := topS 44
abbrev N_l_keys : List Str := ["schema", "told", "found", "report", "pair"]
theorem sc_l_keys : FnScope N_l_keys ["schema", "told"] (defScope s_l_keys) := ⟨rfl, rfl, rfl, by decide +kernel, rfl, by decide +kernel, by decide +kernel⟩
abbrev s_l_place_key : Stmt := topS 45
abbrev N_l_place_key : List Str := ["pair"]
theorem sc_l_place_key : FnScope N_l_place_key ["pair"] (defScope s_l_place_key) := ⟨rfl, rfl, rfl, by decide +kernel, rfl, by decide +kernel, by decide +kernel⟩
abbrev s_l_span_by : Stmt := topS 46
abbrev N_l_span_by : List Str := ["turns", "flags", "stretches", "k", "end"]
theorem sc_l_span_by : FnScope N_l_span_by ["turns", "flags"] (defScope s_l_span_by) := ⟨rfl, rfl, rfl, by decide +kernel, rfl, by decide +kernel, by decide +kernel⟩
abbrev s_l_scale : Stmt := topS 47
abbrev N_l_scale : List Str := ["draws"]
theorem sc_l_scale : FnScope N_l_scale ["draws"] (defScope s_l_scale) := ⟨rfl, rfl, rfl, by decide +kernel, rfl, by decide +kernel, by decide +kernel⟩
abbrev s_l_world : Stmt := topS 48
abbrev N_l_world : List Str := ["draws", "many", "words", "schema", "values", "great", "sources"]
theorem sc_l_world : FnScope N_l_world ["draws", "many"] (defScope s_l_world) := ⟨rfl, rfl, rfl, by decide +kernel, rfl, by decide +kernel, by decide +kernel⟩
abbrev s_l_last : Stmt := topS 49
abbrev N_l_last : List Str := ["told", "part"]
theorem sc_l_last : FnScope N_l_last ["told"] (defScope s_l_last) := ⟨rfl, rfl, rfl, by decide +kernel, rfl, by decide +kernel, by decide +kernel⟩
abbrev s_l_rivals : Stmt := topS 50
abbrev N_l_rivals : List Str := ["draws", "world", "table", "row", "place", "value", "begin", "end", "spans", "number", "first", "other"]
theorem sc_l_rivals : FnScope N_l_rivals ["draws", "world"] (defScope s_l_rivals) := ⟨rfl, rfl, rfl, by decide +kernel, rfl, by decide +kernel, by decide +kernel⟩
abbrev s_l_three_tellings : Stmt := topS 51
abbrev N_l_three_tellings : List Str := ["draws", "world", "told", "rivals", "reports", "believed", "begin", "verdict"]
theorem sc_l_three_tellings : FnScope N_l_three_tellings ["draws", "world"] (defScope s_l_three_tellings) := ⟨rfl, rfl, rfl, by decide +kernel, rfl, by decide +kernel, by decide +kernel⟩
abbrev s_l_trust : Stmt := topS 52
abbrev N_l_trust : List Str := ["draws", "sources", "trust", "source", "weight"]
theorem sc_l_trust : FnScope N_l_trust ["draws", "sources"] (defScope s_l_trust) := ⟨rfl, rfl, rfl, by decide +kernel, rfl, by decide +kernel, by decide +kernel⟩
abbrev s_l_far : Stmt := topS 53
abbrev N_l_far : List Str := ["draws", "told", "border", "more", "reports", "verdicts", "part"]
theorem sc_l_far : FnScope N_l_far ["draws", "told"] (defScope s_l_far) := ⟨rfl, rfl, rfl, by decide +kernel, rfl, by decide +kernel, by decide +kernel⟩
abbrev s_l_cut_due : Stmt := topS 54
abbrev N_l_cut_due : List Str := ["schema", "told", "turns", "found", "report", "flags", "span", "m"]
theorem sc_l_cut_due : FnScope N_l_cut_due ["schema", "told", "turns"] (defScope s_l_cut_due) := ⟨rfl, rfl, rfl, by decide +kernel, rfl, by decide +kernel, by decide +kernel⟩
abbrev s_l_rows_due : Stmt := topS 55
abbrev N_l_rows_due : List Str := ["schema", "told", "pair", "moment", "rows", "report"]
theorem sc_l_rows_due : FnScope N_l_rows_due ["schema", "told", "pair", "moment"] (defScope s_l_rows_due) := ⟨rfl, rfl, rfl, by decide +kernel, rfl, by decide +kernel, by decide +kernel⟩
abbrev s_l_moments : Stmt := topS 56
abbrev N_l_moments : List Str := ["draws", "turns", "begin", "found", "k", "turn"]
theorem sc_l_moments : FnScope N_l_moments ["draws", "turns", "begin"] (defScope s_l_moments) := ⟨rfl, rfl, rfl, by decide +kernel, rfl, by decide +kernel, by decide +kernel⟩
abbrev s_l_rows_are_right : Stmt := topS 57
abbrev N_l_rows_are_right : List Str := ["schema", "told", "moments", "pairs", "table", "key", "pair", "moment", "due"]
theorem sc_l_rows_are_right : FnScope N_l_rows_are_right ["schema", "told", "moments"] (defScope s_l_rows_are_right) := ⟨rfl, rfl, rfl, by decide +kernel, rfl, by decide +kernel, by decide +kernel⟩
abbrev s_law : Stmt := topS 58
abbrev N_law : List Str := ["script", "draws", "world", "schema", "tellings", "told", "turns", "empty", "key"]
theorem sc_law : FnScope N_law ["script"] (defScope s_law) := ⟨rfl, rfl, rfl, by decide +kernel, rfl, by decide +kernel, by decide +kernel⟩

structure Bi (K : PySem.W.Frag) (mg : Str → Option Value) : Prop where
  b_bool : mg "bool" = none
  b_int : mg "int" = none
  b_isinstance : mg "isinstance" = none
  b_len : mg "len" = none
  b_list : mg "list" = none
  b_max : mg "max" = none
  b_min : mg "min" = none
  b_range : mg "range" = none
  b_set : mg "set" = none
  b_sorted : mg "sorted" = none
  b_str : mg "str" = none
  b_tuple : mg "tuple" = none
structure Im (mg : Str → Option Value) : Prop where
  i_ok : True
/-! ### draws -/
abbrev sp_l_draws : DSp := ar2 fun a b M Q => ∃ (ns : List Int) (n : Int), a = .lst (ns.map D.int) ∧ b = .int n ∧ 0 ≤ n ∧ n ≤ 4000 ∧ ∀ p o, M p = none → DrO o → Q (.ref p) (mput M p o)
theorem ok_l_draws (F : Def K mg "_law_draws" s_l_draws ["script", "many"]) (B : Bi K mg) (I : Im mg)  : Cal P w K mg base 1 "_law_draws" ["script", "many"] sp_l_draws := by
  have sc := sc_l_draws
  refine F.cal sc (fun ds M Q h => len2 h) (fun f cdv A outer s H E hr => (ds_cons (ds_setLc (i := 2) rfl sc.nd rfl rfl (sw_true rfl rfl rfl (by decide +kernel)) (own := [("cell", 8)]) (di_seq (d_v 0)) (blkOk_by (N := N_l_draws) (sc := defScope s_l_draws) (by decide +kernel)) (by decide) (fun _ _ _ _ _ => (dg_name (i := 8) sc.nd rfl (Or.inl rfl))) (fun _ _ _ _ _ => dts_nil) (fun _ _ _ _ _ => (d_ct c_int rfl B.b_int boot_int (da_cons (d_v 8) da_nil))))
    (ds_cons (ds_if (dt_cmp (o_eq (hu_eq hr)) (d_cb c_len rfl B.b_len boot_len (da_cons (d_v 2) da_nil)) d_int (nomark _))
    (ds_one (ds_expr (d_mt PySem.F.slot_list_append PySem.F.type_list_append m_append (d_v 2) (da_cons d_int da_nil))))
    ds_nil)
    (ds_cons (ds_set (i := 3) sc.nd rfl (Or.inl rfl) (d_ct c_list rfl B.b_list boot_list (da_cons (d_v 2) da_nil)))
    (ds_cons (ds_set (i := 4) sc.nd rfl (Or.inl rfl) (d_lst da_nil))
    (ds_cons (ds_for PassesOwn.never rfl (di_range1 rfl B.b_range (da_cons (d_v 1) da_nil)) (dg_name (i := 5) sc.nd rfl (Or.inl rfl))
    (ds_cons (ds_set (i := 6) sc.nd rfl (Or.inl rfl) (d_op o_mod (d_v 5) (d_cb c_len rfl B.b_len boot_len (da_cons (d_v 2) da_nil))))
    (ds_one (ds_if (dt_cmp o_ge (d_ix x_ix (d_v 2) (d_v 6) (fun _ _ => rfl)) (d_op o_pow d_int d_int) (nomark _))
    (ds_cons (ds_expr (d_mt PySem.F.slot_list_append PySem.F.type_list_append m_append (d_v 4) (da_cons (d_op o_mod (d_ct c_int rfl B.b_int boot_int (da_cons (d_ix x_ix (d_v 3) (d_v 6) (fun _ _ => rfl)) da_nil)) d_int) da_nil)))
    (ds_one (ds_put (d_op o_div (d_ix x_ix (d_v 3) (d_v 6) (fun _ _ => rfl)) d_int) (d_v 3) (d_v 6) s_lst)))
    (ds_cons (ds_set (i := 7) sc.nd rfl (Or.inl rfl) (d_op o_mod (d_ct c_int rfl B.b_int boot_int (da_cons (d_op o_add (d_op o_add (d_op o_mul (d_ix x_ix (d_v 2) (d_v 6) (fun _ _ => rfl)) d_int) (d_op o_mul (d_v 5) d_int)) d_int) da_nil)) d_int))
    (ds_one (ds_expr (d_mt PySem.F.slot_list_append PySem.F.type_list_append m_append (d_v 4) (da_cons (d_op o_mod (d_ct c_int rfl B.b_int boot_int (da_cons (d_op o_add (d_op o_add (d_op o_mul (d_v 7) (d_v 7)) (d_op o_mul d_int (d_v 7))) (d_v 5)) da_nil)) d_int) da_nil)))))))))
    (ds_cons (ds_expr (d_mt0 PySem.F.slot_list_reverse PySem.F.type_list_reverse m_reverse (d_v 4)))
    (ds_one (ds_ret (d_v 4)))))))))) (fun ds M Q h => ?_)
  obtain ⟨a, b, rfl, ns, n, rfl, rfl, h0, h1, h⟩ := h
  walk_at "st"
  intro _
  refine lc_map ns D.int D.int rfl srcV_none (fun x hx M l C1 h1 => by walk_at "s1"; exact h1) fun c hc => ?_
  refine seq_cut (fun m1 M1 => ∃ cs : List Int, cs ≠ [] ∧ M1 c = some (.lst (cs.map D.int)) ∧ MLe M M1 ∧ m1 = [some (.lst (ns.map D.int)), some (.int n), some (.ref c), none, none, none, none, none, none]) (fun Cn hC => ?_) ?_
  · walk_at "s1"
    split
    · next e =>
      refine ⟨⟨_, rfl⟩, _, rfl, ?_⟩
      have e2 : ns = [] := by
        rw [List.length_map] at e
        exact List.eq_nil_of_length_eq_zero (by omega)
      subst e2
      exact ⟨by decide, hC _ _ ⟨[0], by simp, by rw [mput_same]; rfl, MLe.put (.refl M) hc, rfl⟩⟩
    · next e =>
      refine hC _ _ ⟨ns, fun z => e ?_, mput_same, MLe.put (.refl M) hc, rfl⟩
      rw [z]
      rfl
  rintro _ M1 ⟨cs, hcs, hM1, le1, rfl⟩
  walk_at "st"
  refine ⟨_, by rw [hM1], fun l hl => ?_⟩
  have hcl : c ≠ l := ne_of_fresh hM1 hl
  walk_at "st"
  intro d hd
  have hM2 : mput M1 l (.lst (cs.map D.int)) c = some (.lst (cs.map D.int)) := by rw [mput_ne hcl]; exact hM1
  have hcd : c ≠ d := ne_of_fresh hM2 hd
  have hld : l ≠ d := ne_of_fresh mput_same hd
  have hMl : M l = none := by
    cases q : M l with
    | none => rfl
    | some o => rw [le1 l o q] at hl; cases hl
  have hMd : M d = none := by
    cases q : M d with
    | none => rfl
    | some o => rw [mput_ne hld.symm, le1 d o q] at hd; cases hd
  walk_at "st"
  refine ⟨by omega, by omega, fun _ => ?_⟩
  have hpos : (0 : Int) < (cs.length : Int) := by
    cases cs with
    | nil => exact absurd rfl hcs
    | cons x r => rw [List.length_cons]; omega
  refine for_ind (fun items m1 M2 => ∃ (ls ks : List Int) (x5 x6 x7 x8 : Option D), m1 = [some (.lst (ns.map D.int)), some (.int n), some (.ref c), some (.ref l), some (.ref d), x5, x6, x7, x8] ∧
    M2 c = some (.lst (cs.map D.int)) ∧ M2 l = some (.lst (ls.map D.int)) ∧ ls.length = cs.length ∧ M2 d = some (.lst (ks.map D.int)) ∧ ks.length + items.length ≤ 4000 ∧ MLe M M2 ∧ ∀ z ∈ items, ∃ k : Int, z = .int k ∧ 0 ≤ k ∧ k < 4000) ?_ ?_ _ _ _ ?_
  · rintro m1 M2 ⟨ls, ks, x5, x6, x7, x8, rfl, e1, e2, e3, e4, e5, e6, _⟩
    refine ⟨srcV_none, ?_⟩
    walk_at "rd"
    rw [e4]
    refine ⟨⟨_, rfl⟩, _, rfl, ?_⟩
    rw [← List.map_reverse]
    exact ret_le (MLe.with (MLe.put e6 hMd) mput_same) (h d _ hMd ⟨_, rfl⟩)
  · rintro z items m1 M2 Cn hC ⟨ls, ks, x5, x6, x7, x8, rfl, e1, e2, e3, e4, e5, e6, e7⟩
    refine ⟨srcV_none, ?_⟩
    obtain ⟨k, rfl, k0, k1⟩ := e7 z (by simp)
    rw [List.length_cons] at e5
    have hksz : ks.length < 16777216 := by omega
    have e7' : ∀ z ∈ items, ∃ k : Int, z = .int k ∧ 0 ≤ k ∧ k < 4000 := fun z hz => e7 z (by simp [hz])
    walk_at "st"
    rw [e1]
    refine ⟨_, rfl, by rw [List.length_map]; exact hpos, ?_⟩
    rw [List.length_map]
    have p0 : 0 ≤ k % (cs.length : Int) := Int.emod_nonneg _ (by omega)
    have p1 : k % (cs.length : Int) < cs.length := Int.emod_lt_of_pos _ hpos
    generalize k % (cs.length : Int) = pl at p0 p1
    obtain ⟨cv, _, hcv⟩ := atI_lt p0 p1
    obtain ⟨lv, _, hlv⟩ := atI_lt (xs := ls) p0 (by rw [e3]; exact p1)
    walk_at "s1"
    refine ⟨_, by rw [atI_map, hcv]; rfl, _, rfl, ?_⟩
    split
    · walk_at "st"
      rw [e2, e4]
      refine ⟨⟨_, rfl⟩, _, rfl, _, by rw [atI_map, hlv]; rfl, _, rfl, _, rfl, by rw [List.length_map]; exact hksz, ?_⟩
      have e2' : mput M2 d (.lst (ks.map D.int ++ [.int (lv % 1000)])) l = some (.lst (ls.map D.int)) := by rw [mput_ne hld]; exact e2
      rw [e2']
      refine ⟨_, rfl, _, by rw [atI_map, hlv]; rfl, _, rfl, _, rfl, _, ixN_lt p0 (by rw [List.length_map, e3]; exact p1), ?_⟩
      refine fg_of (hC _ _ ⟨ls.set pl.toNat (lv / 1000), ks ++ [lv % 1000], _, _, _, _, rfl, ?_, ?_, by rw [List.length_set]; exact e3, ?_, by rw [List.length_append, List.length_singleton]; omega, MLe.put (MLe.put e6 hMd) hMl, e7'⟩)
      · rw [mput_ne hcl, mput_ne hcd]
        exact e1
      · rw [mput_same, List.map_set]
      · rw [mput_ne hld.symm, mput_same, List.map_append]
        rfl
    · walk_at "st"
      rw [e1]
      refine ⟨_, rfl, _, by rw [atI_map, hcv]; rfl, _, rfl, ?_⟩
      have m0 : 0 ≤ (cv * 48271 + k * 69621 + 11) % 2147483647 := Int.emod_nonneg _ (by omega)
      have m1 : (cv * 48271 + k * 69621 + 11) % 2147483647 < 2147483647 := Int.emod_lt_of_pos _ (by omega)
      generalize (cv * 48271 + k * 69621 + 11) % 2147483647 = mx at m0 m1
      rw [e4]
      refine ⟨⟨_, rfl⟩, .inl ⟨by omega, by omega⟩, _, rfl, by rw [List.length_map]; exact hksz, ?_⟩
      refine fg_of (hC _ _ ⟨ls, ks ++ [(mx * mx + 3 * mx + k) % 1000003], _, _, _, _, rfl, ?_, ?_, e3, ?_, by rw [List.length_append, List.length_singleton]; omega, MLe.put e6 hMd, e7'⟩)
      · rw [mput_ne hcd]
        exact e1
      · rw [mput_ne hld]
        exact e2
      · rw [mput_same, List.map_append]
        rfl
  · refine ⟨cs, [], _, _, _, _, rfl, ?_, ?_, rfl, mput_same, ?_, MLe.put (MLe.put le1 hMl) hMd, fun z hz => ?_⟩
    · rw [mput_ne hcd]
      exact hM2
    · rw [mput_ne hld]
      exact mput_same
    · simp [rangeD]
      omega
    · simp only [rangeD, List.mem_map, List.mem_range] at hz
      obtain ⟨i, hi, rfl⟩ := hz
      exact ⟨_, rfl, by omega, by omega⟩
/-- the next draw -/
abbrev sp_l_take : DSp := ar2 fun a b M Q => ∃ (p : Addr) (n : Int), a = .ref p ∧ b = .int n ∧ Dr M p ∧ 0 < n ∧ ∀ (o : DO) (r : Int), DrO o → 0 ≤ r → r < n → Q (.int r) (mput M p o)
theorem ok_l_take (F : Def K mg "_law_take" s_l_take ["draws", "many"]) (B : Bi K mg) (I : Im mg)  : Cal P w K mg base 1 "_law_take" ["draws", "many"] sp_l_take := by
  have sc := sc_l_take
  refine F.cal sc (fun ds M Q h => len2 h) (fun f cdv A outer s H E hr => (ds_cons (ds_if (dt_cmp (o_eq (hu_eq hr)) (d_cb c_len rfl B.b_len boot_len (da_cons (d_v 0) da_nil)) d_int (nomark _))
    (ds_one (ds_ret d_int))
    ds_nil)
    (ds_one (ds_ret (d_op o_mod (d_ct c_int rfl B.b_int boot_int (da_cons (d_mt0 PySem.F.slot_list_pop PySem.F.type_list_pop m_pop (d_v 0)) da_nil)) (d_v 1)))))) (fun ds M Q h => ?_)
  obtain ⟨a, b, rfl, p, n, rfl, rfl, ⟨_, e, ks, rfl⟩, hn, h⟩ := h
  walk_at "rd"
  rw [e]
  refine ⟨_, rfl, ?_⟩
  split
  · have z := h _ 0 ⟨ks, rfl⟩ (by omega) hn
    rw [mput_self e] at z
    exact ret_of z
  · next ne =>
    cases q : ks.getLast? with
    | none =>
      rw [List.getLast?_eq_none_iff] at q
      subst q
      exact absurd rfl ne
    | some k =>
      refine ⟨⟨_, rfl⟩, _, rfl, _, by rw [List.getLast?_map, q]; rfl, _, rfl, hn, ?_⟩
      rw [← List.map_dropLast]
      exact ret_of (h _ _ ⟨_, rfl⟩ (Int.emod_nonneg _ (by omega)) (Int.emod_lt_of_pos _ hn))
/-- one of a row -/
abbrev sp_l_pick : DSp := ar2 fun a b M Q => ∃ (p : Addr) (row : List D), a = .ref p ∧ dItems b M = some row ∧ b ≠ .ref p ∧ Dr M p ∧ row ≠ [] ∧
  ∀ (o : DO) (x : D), DrO o → x ∈ row → Q x (mput M p o)
theorem ok_l_pick (F : Def K mg "_law_pick" s_l_pick ["draws", "row"]) (B : Bi K mg) (I : Im mg) (c_l_take : Cal P w K mg base 1 "_law_take" ["draws", "many"] sp_l_take) : Cal P w K mg base 2 "_law_pick" ["draws", "row"] sp_l_pick := by
  have sc := sc_l_pick
  refine F.cal sc (fun ds M Q h => len2 h) (fun f cdv A outer s H E hr => (ds_one (ds_ret (d_ix x_ix (d_v 1) (d_call c_l_take (hr.mono (by first | decide | omega)) rfl (da_cons (d_v 0) (da_cons (d_cb c_len rfl B.b_len boot_len (da_cons (d_v 1) da_nil)) da_nil))) (fun _ _ => rfl))))) (fun ds M Q h => ?_)
  obtain ⟨a, b, rfl, p, row, rfl, hb, hne, e, hr, h⟩ := h
  walk_at "p"
  have hl := len_items hb
  have hpos : (0 : Int) < (row.length : Int) := by
    cases row with
    | nil => exact absurd rfl hr
    | cons x r => rw [List.length_cons]; omega
  refine ⟨_, hl, e, hpos, fun o r ho r0 r1 => ?_⟩
  obtain ⟨x, hx, hat⟩ := atI_lt r0 r1
  exact ⟨row, by rw [items_put hne]; exact hb, x, hat, ret_of (h o x ho hx)⟩

/-- equal values of the same kinds -/
def spS (n : Nat) : DSp := ar2 fun a b M Q => a = b ∧ dOk n b = true ∧ Q (.bl true) M
def spS' : Nat → DSp
  | 0 => fun _ _ _ => False
  | n + 1 => spS n
abbrev sp_l_same : DSp := ar2 fun a b M Q => a = b ∧ dOk 12 b = true ∧ Q (.bl true) M
theorem l_same_list {n : Nat} {b : D} {xs : List D} (hb : ∀ M, dItems b M = some xs) (hd : dOk (n + 1) b = true) (hx : xs.all (dOk n) = true) {j : Nat} {M : DM} {C1 : D → DM → Prop} (hj : j < xs.length) (q : C1 (.bl true) M) (m : DSt) (h0 : m[0]? = some (some b)) (h1 : m[1]? = some (some b)) (h2 : m[2]? = some (some (.int j))) :
    dCall (spS n) (dCons (dOp dIx (dVar 0) (dVar 2)) (dCons (dOp dIx (dVar 1) (dVar 2)) dNil)) m M C1 := by
  have ho : dOk n xs[j] = true := List.all_eq_true.mp hx _ (List.getElem_mem hj)
  have hi : atI xs (j : Int) = some xs[j] := by rw [atI_n, List.getElem?_eq_getElem hj]
  refine ⟨b, h0, .int j, h2, xs, j, xs[j], hb M, rfl, hi, b, h1, .int j, h2, xs, j, xs[j], hb M, rfl, hi, xs[j], xs[j], rfl, rfl, ho, q⟩
theorem ok_l_same_step (F : Def K mg "_law_same" s_l_same ["actual", "due"]) (B : Bi K mg) (I : Im mg) (n : Nat) (c_l_same : Cal P w K mg base n "_law_same" ["actual", "due"] (spS' n)) : Cal P w K mg base (n + 1) "_law_same" ["actual", "due"] (spS n) := by
  have sc := sc_l_same
  refine F.cal sc (fun ds M Q h => len2 h) (fun f cdv A outer s H E hr => (ds_cons (ds_if (dt_val (d_cb c_isT rfl B.b_isinstance boot_isinstance (da_cons (d_v 1) (da_cons (d_tup (da_cons (d_ty rfl B.b_tuple boot_tuple) (da_cons (d_ty rfl B.b_list boot_list) da_nil))) da_nil))))
    (ds_cons (ds_if (dt_w (dw_or (dt_cmp (o_ne (hu_eq hr)) (d_cb c_is rfl B.b_isinstance boot_isinstance (da_cons (d_v 0) (da_cons (d_ty rfl B.b_tuple boot_tuple) da_nil))) (d_cb c_is rfl B.b_isinstance boot_isinstance (da_cons (d_v 1) (da_cons (d_ty rfl B.b_tuple boot_tuple) da_nil))) (nomark _)) (dw_or1 (dt_cmp (o_ne (hu_eq hr)) (d_cb c_is rfl B.b_isinstance boot_isinstance (da_cons (d_v 0) (da_cons (d_ty rfl B.b_list boot_list) da_nil))) (d_cb c_is rfl B.b_isinstance boot_isinstance (da_cons (d_v 1) (da_cons (d_ty rfl B.b_list boot_list) da_nil))) (nomark _)))))
    (ds_one (ds_ret d_bl))
    ds_nil)
    (ds_cons (ds_if (dt_cmp (o_ne (hu_eq hr)) (d_cb c_len rfl B.b_len boot_len (da_cons (d_v 0) da_nil)) (d_cb c_len rfl B.b_len boot_len (da_cons (d_v 1) da_nil)) (nomark _))
    (ds_one (ds_ret d_bl))
    ds_nil)
    (ds_one (ds_ret (d_cmp (o_notin (hu_in hr)) d_bl (d_lcF rfl sc.nd (own := [("k", 2)]) (di_range1 rfl B.b_range (da_cons (d_cb c_lenB rfl B.b_len boot_len (da_cons (d_v 1) da_nil)) da_nil)) (blkOk_by (N := N_l_same) (sc := defScope s_l_same) (by decide +kernel)) (by decide) (fun _ _ _ _ _ => (dg_name (i := 2) sc.nd rfl (Or.inl rfl))) (fun _ _ _ _ _ => dts_nil) (fun _ _ _ _ _ => (d_call c_l_same (hr.mono (by first | decide | omega)) rfl (da_cons (d_ix x_ix (d_v 0) (d_v 2) (fun _ _ => rfl)) (da_cons (d_ix x_ix (d_v 1) (d_v 2) (fun _ _ => rfl)) da_nil))))) rfl)))))
    ds_nil)
    (ds_cons (ds_if (dt_w (dw_or (dt_cmp (o_ne (hu_eq hr)) (d_cb c_is rfl B.b_isinstance boot_isinstance (da_cons (d_v 0) (da_cons (d_ty rfl B.b_bool boot_bool) da_nil))) (d_cb c_is rfl B.b_isinstance boot_isinstance (da_cons (d_v 1) (da_cons (d_ty rfl B.b_bool boot_bool) da_nil))) (nomark _)) (dw_or1 (dt_cmp (o_ne (hu_eq hr)) (d_cb c_is rfl B.b_isinstance boot_isinstance (da_cons (d_v 0) (da_cons (d_ty rfl B.b_int boot_int) da_nil))) (d_cb c_is rfl B.b_isinstance boot_isinstance (da_cons (d_v 1) (da_cons (d_ty rfl B.b_int boot_int) da_nil))) (nomark _)))))
    (ds_one (ds_ret d_bl))
    ds_nil)
    (ds_cons (ds_if (dt_w (dw_or (dt_cmp (o_ne (hu_eq hr)) (d_cb c_is rfl B.b_isinstance boot_isinstance (da_cons (d_v 0) (da_cons (d_ty rfl B.b_str boot_str) da_nil))) (d_cb c_is rfl B.b_isinstance boot_isinstance (da_cons (d_v 1) (da_cons (d_ty rfl B.b_str boot_str) da_nil))) (nomark _)) (dw_or1 (dt_cmp (o_ne (hu_eq hr)) (d_cmp o_is (d_v 0) d_non (nomark _)) (d_cmp o_is (d_v 1) d_non (nomark _)) (nomark _)))))
    (ds_one (ds_ret d_bl))
    ds_nil)
    (ds_one (ds_ret (d_cmp (o_eq (hu_eq hr)) (d_v 0) (d_v 1) (nomark _)))))))) (fun ds M Q h => ?_)
  obtain ⟨b, _, rfl, rfl, hb, h⟩ := h
  cases b with
  | non =>
    walk_at "rd"
    exact ret_of h
  | bl i =>
    walk_at "rd"
    exact ret_of h
  | int i =>
    walk_at "rd"
    exact ret_of h
  | str x =>
    have hx : PyData.strOk x = true := by
      rw [dOk_str] at hb
      exact hb
    walk_at "rd"
    exact ⟨hx, hx, ret_of h⟩
  | tup xs =>
    cases n with
    | zero => cases hb
    | succ n =>
      have hx : xs.all (dOk n) = true := hb
      walk_at "rd"
      intro hz
      refine ⟨by omega, by omega, fun _ => ?_⟩
      refine lc_map (List.range xs.length) (fun i => D.int (0 + (i : Nat))) (fun _ => .bl true) (by simp [rangeD]) srcV_none (fun x hx' M l C1 h1 => ?_) fun p hp => ?_
      · exact l_same_list (fun _ => rfl) hb hx (List.mem_range.mp hx') h1 _ rfl rfl (by simp)
      · simp only [mdel_mput hp]
        refine ⟨by simp, ?_⟩
        have e : (List.map (fun _ : Nat => D.bl true) (List.range xs.length)).any (fun z => z.eqv (D.bl false)) = false := by
          rw [List.any_map]
          simp [eqv_bl]
        rw [e]
        exact ret_of h
  | lst xs =>
    cases n with
    | zero => cases hb
    | succ n =>
      have hx : xs.all (dOk n) = true := hb
      walk_at "rd"
      intro hz
      refine ⟨by omega, by omega, fun _ => ?_⟩
      refine lc_map (List.range xs.length) (fun i => D.int (0 + (i : Nat))) (fun _ => .bl true) (by simp [rangeD]) srcV_none (fun x hx' M l C1 h1 => ?_) fun p hp => ?_
      · exact l_same_list (fun _ => rfl) hb hx (List.mem_range.mp hx') h1 _ rfl rfl (by simp)
      · simp only [mdel_mput hp]
        refine ⟨by simp, ?_⟩
        have e : (List.map (fun _ : Nat => D.bl true) (List.range xs.length)).any (fun z => z.eqv (D.bl false)) = false := by
          rw [List.any_map]
          simp [eqv_bl]
        rw [e]
        exact ret_of h
  | dct _ => cases n <;> cases hb
  | dmt _ _ => cases n <;> cases hb
  | ref _ => cases n <;> cases hb
  | ty _ => cases n <;> cases hb
theorem ok_l_same (F : Def K mg "_law_same" s_l_same ["actual", "due"]) (B : Bi K mg) (I : Im mg) : Cal P w K mg base 13 "_law_same" ["actual", "due"] sp_l_same := by
  have z : ∀ n : Nat, Cal P w K mg base (n + 1) "_law_same" ["actual", "due"] (spS n) := by
    intro n
    induction n with
    | zero => exact ok_l_same_step F B I 0 F.nil
    | succ n ih => exact ok_l_same_step F B I (n + 1) ih
  exact z 12
/-! ### words -/
def wok (B : Nat) (w : Str) : Prop := 1 ≤ w.length ∧ w.length ≤ B ∧ (∀ c ∈ w.cps.toList, 97 ≤ c ∧ c ≤ 122) ∧ (w.length ≤ 25 ∨ ∀ c ∈ w.cps.toList, c = 122)
theorem wok_mono {A B : Nat} {w : Str} (h : wok A w) (l : A ≤ B) : wok B w := ⟨h.1, Nat.le_trans h.2.1 l, h.2.2⟩
theorem wok_str {B : Nat} {w : Str} (h : wok B w) : PyData.strOk w = true := by
  unfold PyData.strOk
  rw [← Array.all_toList]
  refine List.all_eq_true.mpr fun c hc => ?_
  have := (h.2.2.1 c hc).2
  exact decide_eq_true (by omega)
theorem alpha_sgn {i : Int} (h0 : 0 ≤ i) (h1 : i < 26) : ∃ c : Nat, sgn "abcdefghijklmnopqrstuvwxyz" i = some (SS [c]) ∧ 97 ≤ c ∧ c ≤ 122 := by
  have z : ∀ n : Fin 26, ∃ c : Nat, sgn "abcdefghijklmnopqrstuvwxyz" ((n.val : Nat) : Int) = some (SS [c]) ∧ 97 ≤ c ∧ c ≤ 122 := by
    intro n
    refine ⟨97 + n.val, ?_, by omega, by omega⟩
    revert n
    decide +kernel
  obtain ⟨n, rfl⟩ := Int.eq_ofNat_of_zero_le h0
  exact z ⟨n, by omega⟩
theorem ss_len (cs : List Nat) : (SS cs).length = cs.length := by simp [Str.length]
theorem srep_z {n c : Nat} (h : c ∈ (srep (Str.ofString "z") n).cps.toList) : c = 122 := by
  have e : (Str.ofString "z").cps.toList = [122] := by decide +kernel
  have h' : c ∈ (List.replicate n [122]).flatten := by simpa [srep, e] using h
  obtain ⟨l, hl, hc⟩ := List.mem_flatten.mp h'
  rw [(List.mem_replicate.mp hl).2] at hc
  simpa using hc
abbrev sp_l_words : DSp := ar2 fun a b M Q => ∃ (p : Addr) (n : Nat), a = .ref p ∧ b = .int n ∧ n ≤ 100 ∧ Dr M p ∧ ∀ (o : DO) (ws : List Str), DrO o → ws.length = n → ws.Nodup → (∀ w ∈ ws, wok (25 + n) w) → Q (.lst (ws.map D.str)) (mput M p o)
theorem ok_l_words (F : Def K mg "_law_words" s_l_words ["draws", "many"]) (B : Bi K mg) (I : Im mg) (c_l_take : Cal P w K mg base 1 "_law_take" ["draws", "many"] sp_l_take) : Cal P w K mg base 2 "_law_words" ["draws", "many"] sp_l_words := by
  have sc := sc_l_words
  refine F.cal sc (fun ds M Q h => len2 h) (fun f cdv A outer s H E hr => (ds_cons (ds_set (i := 2) sc.nd rfl (Or.inl rfl) (d_lst da_nil))
    (ds_cons (ds_for PassesOwn.never rfl (di_range1 rfl B.b_range (da_cons (d_v 1) da_nil)) (dg_name (i := 3) sc.nd rfl (Or.inl rfl))
    (ds_cons (ds_set (i := 4) sc.nd rfl (Or.inl rfl) (d_op o_add d_int (d_call c_l_take (hr.mono (by first | decide | omega)) rfl (da_cons (d_v 0) (da_cons d_int da_nil)))))
    (ds_cons (ds_if (dt_cmp (o_eq (hu_eq hr)) (d_call c_l_take (hr.mono (by first | decide | omega)) rfl (da_cons (d_v 0) (da_cons d_int da_nil))) d_int (nomark _))
    (ds_one (ds_set (i := 4) sc.nd rfl (Or.inl rfl) (d_op o_add (d_op o_add (d_v 4) d_int) (d_call c_l_take (hr.mono (by first | decide | omega)) rfl (da_cons (d_v 0) (da_cons d_int da_nil))))))
    ds_nil)
    (ds_cons (ds_set (i := 5) sc.nd rfl (Or.inl rfl) (d_join d_str (da_cons (d_lcF rfl sc.nd (own := [("j", 6)]) (di_range1 rfl B.b_range (da_cons (d_v 4) da_nil)) (blkOk_by (N := N_l_words) (sc := defScope s_l_words) (by decide +kernel)) (by decide) (fun _ _ _ _ _ => (dg_name (i := 6) sc.nd rfl (Or.inl rfl))) (fun _ _ _ _ _ => dts_nil) (fun _ _ _ _ _ => (d_ix x_ixS d_str (d_call c_l_take (hr.mono (by first | decide | omega)) rfl (da_cons (d_v 0) (da_cons d_int da_nil))) (fun _ _ => rfl)))) da_nil)))
    (ds_cons (ds_if (dt_cmp (o_in (hu_in hr)) (d_v 5) (d_v 2) rfl)
    (ds_one (ds_set (i := 5) sc.nd rfl (Or.inl rfl) (d_op o_mulA d_str (d_op o_add d_int (d_cb (c_max rfl) rfl B.b_max boot_max (da_cons (d_lcF rfl sc.nd (own := [("other", 7)]) (di_seq (d_v 2)) (blkOk_by (N := N_l_words) (sc := defScope s_l_words) (by decide +kernel)) (by decide) (fun _ _ _ _ _ => (dg_name (i := 7) sc.nd rfl (Or.inl rfl))) (fun _ _ _ _ _ => dts_nil) (fun _ _ _ _ _ => (d_cb c_len rfl B.b_len boot_len (da_cons (d_v 7) da_nil)))) da_nil))))))
    ds_nil)
    (ds_one (ds_expr (d_mt PySem.F.slot_list_append PySem.F.type_list_append m_append (d_v 2) (da_cons (d_v 5) da_nil)))))))))
    (ds_one (ds_ret (d_fz (d_v 2))))))) (fun ds M Q h => ?_)
  obtain ⟨a, b, rfl, p, n, rfl, rfl, hn, ⟨o0, e0, ho0⟩, h⟩ := h
  walk_at "st"
  intro q hq
  have hpq : p ≠ q := ne_of_fresh e0 hq
  walk_at "st"
  refine ⟨by omega, by omega, fun _ => ?_⟩
  have hl : (rangeD 0 ((n : Int)).toNat).length = n := by simp [rangeD]
  generalize rangeD 0 ((n : Int)).toNat = items at hl
  refine for_ind (fun items m1 M1 => ∃ (o : DO) (ws : List Str) (x3 x4 x5 x6 x7 : Option D), m1 = [some (.ref p), some (.int n), some (.ref q), x3, x4, x5, x6, x7] ∧ DrO o ∧ M1 = mput (mput M p o) q (.lst (ws.map D.str)) ∧
    ws.length + items.length = n ∧ ws.Nodup ∧ ∀ w ∈ ws, wok (25 + ws.length) w) ?_ ?_ _ _ _ ?_
  · rintro m1 M1 ⟨o, ws, x3, x4, x5, x6, x7, rfl, ho, rfl, e1, e2, e3⟩
    refine ⟨srcV_none, ?_⟩
    walk_at "rd"
    have e1' : ws.length = n := by simpa using e1
    refine ⟨_, rfl, ?_⟩
    rw [mdel_mput (mput_fresh hpq hq)]
    exact ret_of (h o ws ho e1' e2 (by rw [← e1']; exact e3))
  · rintro z items m1 M1 Cn hC ⟨o, ws, x3, x4, x5, x6, x7, rfl, ho, rfl, e1, e2, e3⟩
    refine ⟨srcV_none, ?_⟩
    rw [List.length_cons] at e1
    walk_at "st"
    refine ⟨dr_ne (dr_put ho) hpq, fun o1 r1 ho1 r10 r11 => ?_⟩
    rw [mput_swap hpq]
    have hd : ∀ o', DrO o' → Dr (mput (mput M p o') q (.lst (ws.map D.str))) p := fun o' ho' => dr_ne (dr_put ho') hpq
    refine seq_cut (fun m2 M2 => ∃ (o2 : DO) (s : Nat), DrO o2 ∧ 1 ≤ s ∧ s ≤ 25 ∧ M2 = mput (mput M p o2) q (.lst (ws.map D.str)) ∧ m2 = [some (.ref p), some (.int n), some (.ref q), some z, some (.int s), x5, x6, x7]) (fun Cn2 hC2 => ?_) ?_
    · walk_at "s1"
      refine ⟨hd o1 ho1, fun o2 r2 ho2 r20 r21 => ?_⟩
      rw [mput_swap hpq]
      split
      · refine ⟨hd o2 ho2, fun o3 r3 ho3 r30 r31 => ?_⟩
        rw [mput_swap hpq]
        refine hC2 _ _ ⟨o3, (1 + r1 + 3 + r3).toNat, ho3, by omega, by omega, rfl, ?_⟩
        have e : (((1 + r1 + 3 + r3).toNat : Nat) : Int) = 1 + r1 + 3 + r3 := by omega
        rw [e]
      · refine hC2 _ _ ⟨o2, (1 + r1).toNat, ho2, by omega, by omega, rfl, ?_⟩
        have e : (((1 + r1).toNat : Nat) : Int) = 1 + r1 := by omega
        rw [e]
    rintro m2 M2 ⟨o2, s, ho2, s0, s1, rfl, rfl⟩
    walk_at "st"
    refine ⟨by omega, by omega, fun _ r hr => ?_⟩
    have hpr : p ≠ r := by
      obtain ⟨o', e', _⟩ := hd o2 ho2
      exact ne_of_fresh e' hr
    have hqr : q ≠ r := ne_of_fresh mput_same hr
    have hrM : M r = none := by
      rw [mput_ne hqr.symm, mput_ne hpr.symm] at hr
      exact hr
    have hl2 : (rangeD 0 ((s : Int)).toNat).length = s := by simp [rangeD]
    generalize rangeD 0 ((s : Int)).toNat = its at hl2
    refine lc_ind (fun its acc M3 => ∃ (o3 : DO) (cs : List Nat), DrO o3 ∧ M3 = mput (mput (mput M p o3) q (.lst (ws.map D.str))) r (.lst acc) ∧ acc = (cs.map fun c => SS [c]).map D.str ∧ cs.length + its.length = s ∧ ∀ c ∈ cs, 97 ≤ c ∧ c ≤ 122) ?_ ?_ _ _ _ ?_
    · rintro acc M3 ⟨o3, cs, ho3, rfl, rfl, f1, f2⟩
      refine ⟨srcV_none, ?_⟩
      have f1' : cs.length = s := by simpa using f1
      have hfr : mput (mput M p o3) q (.lst (ws.map D.str)) r = none := by
        rw [mput_ne hqr.symm, mput_ne hpr.symm]
        exact hrM
      rw [mdel_mput hfr]
      refine ⟨cs.map fun c => SS [c], rfl, ?_, ?_⟩
      · rw [len_one, List.length_map]
        show _ + _ * 0 ≤ _
        omega
      rw [DL.join_one]
      have wk : wok 25 (SS cs) := ⟨by rw [ss_len]; omega, by rw [ss_len]; omega, f2, .inl (by rw [ss_len]; omega)⟩
      refine seq_cut (fun m4 M4 => ∃ (w : Str) (x7' : Option D), wok (25 + (ws.length + 1)) w ∧ w ∉ ws ∧ M4 = mput (mput M p o3) q (.lst (ws.map D.str)) ∧ m4 = [some (.ref p), some (.int n), some (.ref q), some z, some (.int s), some (.str w), x6, x7']) (fun Cn4 hC4 => ?_) ?_
      · have hws : (ws.map D.str).all (dOk 63) = true := by
          rw [List.all_map]
          exact List.all_eq_true.mpr fun w hw => by
            show dOk 63 (.str w) = true
            rw [dOk_str]
            exact wok_str (e3 w hw)
        walk_at "s1"
        refine ⟨wok_str wk, hws, ?_⟩
        rw [any_strs]
        split
        · next hin =>
          have hin' : SS cs ∈ ws := by simpa using hin
          intro _
          refine lc_map (ws) D.str (fun w => D.int (w.length : Nat)) rfl (fun a e => by cases e; exact mput_same) (fun w hw M5 l5 C1 h5 => ?_) fun r5 hr5 => ?_
          · walk_at "s1"
            have := (e3 w hw).2.1
            exact ⟨_, by rw [if_pos (by omega)], h5⟩
          · rw [mdel_mput hr5]
            refine ⟨ws.map fun w => ((w.length : Nat) : Int), by rw [List.map_map] <;> rfl, ?_, fun mx hmx hle => ?_⟩
            · rw [List.length_map]
              exact List.length_pos_of_mem hin'
            obtain ⟨w0, hw0, rfl⟩ := List.mem_map.mp hmx
            have b0 := (e3 w0 hw0).2.1
            have e5 : (1 + ((w0.length : Nat) : Int)).toNat = 1 + w0.length := by omega
            rw [e5]
            have e6 : (Str.ofString "z").length = 1 := by decide +kernel
            have e7 : (srep (Str.ofString "z") (1 + w0.length)).length = 1 + w0.length := by rw [srep_len, e6, Nat.one_mul]
            refine ⟨by omega, by omega, by rw [e6]; omega, hC4 _ _ ⟨_, _, ⟨by rw [e7]; omega, by rw [e7]; omega, ?_, .inr ?_⟩, ?_, rfl, rfl⟩⟩
            · intro c hc
              have : c = 122 := srep_z hc
              omega
            · exact fun c hc => srep_z hc
            · intro hm
              have := hle _ (List.mem_map.mpr ⟨_, hm, rfl⟩)
              rw [e7] at this
              omega
        · next hin => exact hC4 _ _ ⟨SS cs, _, wok_mono wk (by omega), by simpa using hin, rfl, rfl⟩
      rintro m4 M4 ⟨w, x7', hw, hnw, rfl, rfl⟩
      walk_at "rd"
      refine ⟨⟨_, rfl⟩, _, rfl, by rw [List.length_map]; omega, fg_of (hC _ _ ⟨o3, ws ++ [w], _, _, _, _, _, rfl, ho3, ?_, by rw [List.length_append, List.length_singleton]; omega, ?_, ?_⟩)⟩
      · rw [List.map_append]
        rfl
      · rw [List.nodup_append]
        refine ⟨e2, by simp, fun a ha b hb => ?_⟩
        have hb' : b = w := by simpa using hb
        rw [hb']
        exact fun e => hnw (e ▸ ha)
      · intro u hu
        rw [List.length_append, List.length_singleton]
        rcases List.mem_append.mp hu with hu | hu
        · exact wok_mono (e3 u hu) (by omega)
        · have hu' : u = w := by simpa using hu
          rw [hu']
          exact hw
    · rintro d its acc M3 Cn5 hC5 ⟨o3, cs, ho3, rfl, rfl, f1, f2⟩
      refine ⟨srcV_none, ?_⟩
      rw [List.length_cons] at f1
      walk_at "s1"
      refine ⟨dr_ne (dr_ne (dr_put ho3) hpq) hpr, fun o4 i ho4 i0 i1 => ?_⟩
      obtain ⟨c, hc, c0, c1⟩ := alpha_sgn i0 i1
      refine ⟨by decide +kernel, _, hc, ?_⟩
      rw [mput_comm hpr.symm, mput_swap hpq]
      refine ⟨mput_same, ?_⟩
      rw [mput_mput]
      refine hC5 _ _ ⟨o4, cs ++ [c], ho4, rfl, by simp, by rw [List.length_append, List.length_singleton]; omega, ?_⟩
      intro e he
      rcases List.mem_append.mp he with he | he
      · exact f2 e he
      · have : e = c := by simpa using he
        omega
    · exact ⟨o2, [], ho2, rfl, rfl, by simpa using hl2, by simp⟩
  · exact ⟨o0, [], _, _, _, _, _, rfl, ho0, by rw [mput_self e0]; rfl, by simpa using hl, by simp, by simp⟩
/-! ### a permutation of a mapped list -/
theorem perm_map {α β : Type} (f : α → β) : ∀ {xs : List α} {l : List β}, l.Perm (xs.map f) → ∃ ys : List α, l = ys.map f ∧ ys.Perm xs
  | [], l, h => ⟨[], List.Perm.eq_nil h, .nil⟩
  | x :: xs, l, h => by
    have hm : f x ∈ l := h.mem_iff.mpr (by simp)
    obtain ⟨l1, l2, rfl⟩ := List.append_of_mem hm
    have h2 : (l1 ++ l2).Perm (xs.map f) := by
      have := (List.perm_middle (a := f x) (l₁ := l1) (l₂ := l2)).symm.trans h
      exact List.Perm.cons_inv this
    obtain ⟨ys, e, hp⟩ := perm_map f h2
    obtain ⟨y1, y2, rfl, rfl, rfl⟩ := List.map_eq_append_iff.mp e.symm
    exact ⟨y1 ++ x :: y2, by simp, List.perm_middle.trans (hp.cons x)⟩

/-! ### lists of texts: sorted -/
def unS : D → Str
  | .str n => n
  | _ => ""
theorem sort_strs (es : List Str) : ∃ fs : List Str, srtD (es.map D.str) = fs.map D.str ∧ fs.Perm es := by
  have hp := srtD_perm (es.map D.str)
  refine ⟨(srtD (es.map D.str)).map unS, ?_, ?_⟩
  · rw [List.map_map]
    conv => lhs; rw [← List.map_id (srtD (es.map D.str))]
    refine List.map_congr_left fun x hx => ?_
    obtain ⟨e, _, rfl⟩ := List.mem_map.mp (hp.mem_iff.mp hx)
    rfl
  · have := hp.map unS
    rw [List.map_map] at this
    have e : List.map (unS ∘ D.str) es = es := by
      conv => rhs; rw [← List.map_id es]
      exact List.map_congr_left fun x _ => rfl
    rw [e] at this
    exact this
open PySem.W (AllAlike Sortable alike alikeAll) in
theorem strs_alike (es : List Str) : AllAlike ((es.map D.str).map D.py) := by
  intro d hd d' hd'
  simp only [List.mem_map] at hd hd'
  obtain ⟨_, ⟨e, _, rfl⟩, rfl⟩ := hd
  obtain ⟨_, ⟨f, _, rfl⟩, rfl⟩ := hd'
  simp [D.py, alike]
open PySem.W (AllAlike Sortable alike alikeAll) in
theorem strs_sortable (es : List Str) : Sortable ((es.map D.str).map D.py) := by
  refine .inr fun d hd => ?_
  simp only [List.mem_map] at hd
  obtain ⟨_, ⟨e, _, rfl⟩, rfl⟩ := hd
  simp [D.py]
theorem strs_ok {es : List Str} {n : Nat} (h : ∀ e ∈ es, PyData.strOk e = true) : (es.map D.str).all (dOk n) = true := by
  rw [List.all_map]
  refine List.all_eq_true.mpr fun e he => ?_
  show dOk n (.str e) = true
  rw [dOk_str]
  exact h e he
theorem len_app (a b : Str) : (a ++ b).length = a.length + b.length := by
  rw [TL.len_tl, TL.tl_append, List.length_append, ← TL.len_tl, ← TL.len_tl]
theorem strOk_iff {s : Str} : PyData.strOk s = true ↔ ∀ c ∈ TL.tl s, PyData.strOk ⟨#[c]⟩ = true := by
  have e : ∀ s : Str, PyData.strOk s = (TL.tl s).all (fun c => PyData.strOk ⟨#[c]⟩) := by
    intro s
    unfold PyData.strOk
    rw [← Array.all_toList]
    show (s.cps.toList).all _ = (s.cps.toList).all _
    congr 1
    funext c
    simp
  rw [e, List.all_eq_true]
theorem strOk_app {a b : Str} (h : PyData.strOk a = true) (k : PyData.strOk b = true) : PyData.strOk (a ++ b) = true := by
  rw [strOk_iff] at h k ⊢
  rw [TL.tl_append]
  intro c hc
  rcases List.mem_append.mp hc with hc | hc
  · exact h c hc
  · exact k c hc
theorem strOk_cut {a : Str} {lo hi : Option Int} (h : PyData.strOk a = true) : PyData.strOk (cutS a lo hi) = true := by
  rw [strOk_iff] at h ⊢
  intro c hc
  have hc' : c ∈ (a.cps.toList.drop (HT.sIx a.length 0 lo)).take (HT.sIx a.length a.length hi - HT.sIx a.length 0 lo) := hc
  exact h c (List.mem_of_mem_drop (List.mem_of_mem_take hc'))
theorem cutS_le (a : Str) (lo hi : Option Int) : (cutS a lo hi).length ≤ a.length := by
  rw [TL.len_tl, TL.len_tl]
  show ((a.cps.toList.drop _).take _).length ≤ a.cps.toList.length
  rw [List.length_take, List.length_drop]
  omega

/-! ### the keys of values and rows -/
def vKey : D → D
  | .str s => .tup [.int 1, .int 0, .str s]
  | d => .tup [.int 0, d, .str ""]
/-- a value: an integer or a text -/
def isV (d : D) : Prop := (∃ i, d = .int i) ∨ ∃ s, d = .str s ∧ PyData.strOk s = true
theorem isV_pl {d : D} (h : isV d) : pln d = true := by
  rcases h with ⟨i, rfl⟩ | ⟨s, rfl, _⟩ <;> rfl
theorem isV_ok {d : D} (h : isV d) (n : Nat) : dOk n d = true := by
  rcases h with ⟨i, rfl⟩ | ⟨s, rfl, h⟩
  · simp
  · rw [dOk_str]; exact h
theorem row_pl {vs : List D} (h : ∀ v ∈ vs, isV v) : plns vs = true := plns_iff.mpr fun v hv => isV_pl (h v hv)
theorem row_ok {vs : List D} (h : ∀ v ∈ vs, isV v) (n : Nat) : vs.all (dOk n) = true := List.all_eq_true.mpr fun v hv => isV_ok (h v hv) n
def rowKey : D → D
  | .tup vs => .tup (vs.map vKey)
  | d => d
theorem vKey_ok {d : D} (h : isV d) (n : Nat) : dOk (n + 1) (vKey d) = true := by
  rcases h with ⟨i, rfl⟩ | ⟨s, rfl, h⟩
  · have : PyData.strOk (Str.ofString "") = true := by decide +kernel
    simp [vKey, dOk_str, this]
  · simp [vKey, dOk_str, h]
open PySem.W (AllAlike Sortable alike alikeAll) in
theorem vKey_alike {d e : D} (h : isV d) (k : isV e) : alike (vKey d).py (vKey e).py = true := by
  rcases h with ⟨i, rfl⟩ | ⟨s, rfl, h⟩ <;> rcases k with ⟨j, rfl⟩ | ⟨t, rfl, k⟩ <;> simp [vKey, D.py, D.pys, alike, alikeAll]
open PySem.W (AllAlike Sortable alike alikeAll) in
theorem rowKey_alike : ∀ {vs ws : List D}, (∀ v ∈ vs, isV v) → (∀ v ∈ ws, isV v) → alikeAll (D.pys (vs.map vKey)) (D.pys (ws.map vKey)) = true
  | [], ws, _, _ => by simp [D.pys, alikeAll]
  | v :: vs, [], _, _ => by simp [D.pys, alikeAll]
  | v :: vs, w :: ws, h, k => by
    simp only [List.map_cons, D.pys, alikeAll, Bool.and_eq_true]
    exact ⟨vKey_alike (h v (by simp)) (k w (by simp)), rowKey_alike (fun u hu => h u (by simp [hu])) fun u hu => k u (by simp [hu])⟩
abbrev sp_l_value_key : DSp := ar1 fun a M Q => isV a ∧ Q (vKey a) M
theorem ok_l_value_key (F : Def K mg "_law_value_key" s_l_value_key ["value"]) (B : Bi K mg) (I : Im mg)  : Cal P w K mg base 1 "_law_value_key" ["value"] sp_l_value_key := by
  have sc := sc_l_value_key
  refine F.cal sc (fun ds M Q h => len1 h) (fun f cdv A outer s H E hr => (ds_cons (ds_if (dt_val (d_cb c_is rfl B.b_isinstance boot_isinstance (da_cons (d_v 0) (da_cons (d_ty rfl B.b_str boot_str) da_nil))))
    (ds_one (ds_ret (d_tup (da_cons d_int (da_cons d_int (da_cons (d_v 0) da_nil))))))
    ds_nil)
    (ds_one (ds_ret (d_tup (da_cons d_int (da_cons (d_v 0) (da_cons d_str da_nil)))))))) (fun ds M Q h => ?_)
  obtain ⟨a, rfl, hv, h⟩ := h
  rcases hv with ⟨i, rfl⟩ | ⟨s, rfl, hs⟩
  · walk_at "rd"
    exact ret_of h
  · walk_at "rd"
    exact ret_of h
abbrev sp_l_row_key : DSp := ar1 fun a M Q => ∃ vs : List D, a = .tup vs ∧ (∀ v ∈ vs, isV v) ∧ Q (.tup (vs.map vKey)) M
theorem ok_l_row_key (F : Def K mg "_law_row_key" s_l_row_key ["row"]) (B : Bi K mg) (I : Im mg) (c_l_value_key : Cal P w K mg base 1 "_law_value_key" ["value"] sp_l_value_key) : Cal P w K mg base 2 "_law_row_key" ["row"] sp_l_row_key := by
  have sc := sc_l_row_key
  refine F.cal sc (fun ds M Q h => len1 h) (fun f cdv A outer s H E hr => (ds_one (ds_ret (d_ct c_tuple rfl B.b_tuple boot_tuple (da_cons (d_lcF rfl sc.nd (own := [("value", 1)]) (di_seq (d_v 0)) (blkOk_by (N := N_l_row_key) (sc := defScope s_l_row_key) (by decide +kernel)) (by decide) (fun _ _ _ _ _ => (dg_name (i := 1) sc.nd rfl (Or.inl rfl))) (fun _ _ _ _ _ => dts_nil) (fun _ _ _ _ _ => (d_call c_l_value_key (hr.mono (by first | decide | omega)) rfl (da_cons (d_v 1) da_nil)))) da_nil))))) (fun ds M Q h => ?_)
  obtain ⟨a, rfl, vs, rfl, hv, h⟩ := h
  walk_at "rd"
  intro _
  refine lc_map vs (fun v => v) vKey (by simp) srcV_none (fun v hv' M5 l5 C1 h5 => ?_) fun r hr => ?_
  · walk_at "s1"
    exact ⟨hv v hv', h5⟩
  · rw [mdel_mput hr]
    exact ret_of h
abbrev sp_value_key : DSp := ar1 fun a M Q => isV a ∧ Q (vKey a) M
theorem ok_value_key (F : Def K mg "value_key" s_value_key ["value"]) (B : Bi K mg) (I : Im mg)  : Cal P w K mg base 1 "value_key" ["value"] sp_value_key := by
  have sc := sc_value_key
  refine F.cal sc (fun ds M Q h => len1 h) (fun f cdv A outer s H E hr => (ds_cons (ds_if (dt_val (d_cb c_is rfl B.b_isinstance boot_isinstance (da_cons (d_v 0) (da_cons (d_ty rfl B.b_str boot_str) da_nil))))
    (ds_one (ds_ret (d_tup (da_cons d_int (da_cons d_int (da_cons (d_v 0) da_nil))))))
    ds_nil)
    (ds_one (ds_ret (d_tup (da_cons d_int (da_cons (d_v 0) (da_cons d_str da_nil)))))))) (fun ds M Q h => ?_)
  obtain ⟨a, rfl, hv, h⟩ := h
  rcases hv with ⟨i, rfl⟩ | ⟨s, rfl, hs⟩
  · walk_at "rd"
    exact ret_of h
  · walk_at "rd"
    exact ret_of h
abbrev sp_row_key : DSp := ar1 fun a M Q => ∃ vs : List D, a = .tup vs ∧ (∀ v ∈ vs, isV v) ∧ Q (.tup (vs.map vKey)) M
theorem ok_row_key (F : Def K mg "row_key" s_row_key ["row"]) (B : Bi K mg) (I : Im mg) (c_value_key : Cal P w K mg base 1 "value_key" ["value"] sp_value_key) : Cal P w K mg base 2 "row_key" ["row"] sp_row_key := by
  have sc := sc_row_key
  refine F.cal sc (fun ds M Q h => len1 h) (fun f cdv A outer s H E hr => (ds_one (ds_ret (d_ct c_tuple rfl B.b_tuple boot_tuple (da_cons (d_lcF rfl sc.nd (own := [("value", 1)]) (di_seq (d_v 0)) (blkOk_by (N := N_row_key) (sc := defScope s_row_key) (by decide +kernel)) (by decide) (fun _ _ _ _ _ => (dg_name (i := 1) sc.nd rfl (Or.inl rfl))) (fun _ _ _ _ _ => dts_nil) (fun _ _ _ _ _ => (d_call c_value_key (hr.mono (by first | decide | omega)) rfl (da_cons (d_v 1) da_nil)))) da_nil))))) (fun ds M Q h => ?_)
  obtain ⟨a, rfl, vs, rfl, hv, h⟩ := h
  walk_at "rd"
  intro _
  refine lc_map vs (fun v => v) vKey (by simp) srcV_none (fun v hv' M5 l5 C1 h5 => ?_) fun r hr => ?_
  · walk_at "s1"
    exact ⟨hv v hv', h5⟩
  · rw [mdel_mput hr]
    exact ret_of h
/-! ### the order of data -/
section
open PySem.W (dataLt alike keyToks AllAlike dataLe Sortable alikeAll)
theorem lt_asym {x y : PyData} (h : dataLt x y = true) : dataLt y x = false := by
  cases e : dataLt y x with
  | false => rfl
  | true =>
    have q := PyProof.Rows.lex_trans (O := itemOrd) _ _ _ h e
    rw [PyProof.Rows.lex_irrefl] at q
    cases q
theorem toks_inj {x y : PyData} (h : alike x y = true) (e : keyToks x = keyToks y) : PyData.eqv x y = true := by
  cases q : PyData.eqv x y with
  | true => rfl
  | false =>
    have h1 := (PySem.W.toks_eqv x y h).2 q [] [.inl 0]
    rw [e, PySem.W.lex_pre, PyProof.Rows.lex_irrefl] at h1
    exact absurd h1 (by decide)
theorem lt_tri {x y : PyData} (h : alike x y = true) (h1 : dataLt x y = false) (h2 : dataLt y x = false) : PyData.eqv x y = true := toks_inj h (PyProof.Rows.lex_total (O := itemOrd) _ _ h1 h2)
theorem lt_eqv {x y : PyData} (h : alike x y = true) (e : PyData.eqv x y = true) : dataLt x y = false ∧ dataLt y x = false := by
  have q := (PySem.W.toks_eqv x y h).1 e
  unfold dataLt
  rw [q]
  exact ⟨PyProof.Rows.lex_irrefl _, PyProof.Rows.lex_irrefl _⟩
/-- -1, 0 or 1 -/
def cmpD (a b : D) : Int := if a.eqv b = true then 0 else if dataLt a.py b.py = true then -1 else 1
def ordD (a b : D) : Int := (if dataLt b.py a.py = true then 1 else 0) - (if dataLt a.py b.py = true then 1 else 0)
theorem cmp_ord {a b : D} (h : alike a.py b.py = true) : ordD a b = cmpD a b := by
  unfold ordD cmpD
  cases e : a.eqv b with
  | true =>
    obtain ⟨h1, h2⟩ := lt_eqv h e
    simp [h1, h2]
  | false =>
    cases e1 : dataLt a.py b.py with
    | true => simp [lt_asym e1]
    | false =>
      cases e2 : dataLt b.py a.py with
      | true => simp
      | false =>
        have := lt_tri h e1 e2
        rw [show a.eqv b = PyData.eqv a.py b.py from rfl, this] at e
        cases e
theorem ord_flip (a b : D) : 0 - ordD a b = ordD b a := by
  unfold ordD
  omega
theorem ord_self (a : D) : ordD a a = 0 := by
  unfold ordD
  omega
/-- the order of rows -/
def rowLe : D → D → Bool := dataLe false fun x => D.py (rowKey x)
theorem rowLe_eq (a b : D) : rowLe a b = !dataLt (D.py (rowKey b)) (D.py (rowKey a)) := rfl
theorem rowLe_trans (a b c : D) (h : rowLe a b = true) (k : rowLe b c = true) : rowLe a c = true := by
  rw [rowLe_eq, Bool.not_eq_true'] at h k ⊢
  cases e : dataLt (D.py (rowKey c)) (D.py (rowKey a)) with
  | false => rfl
  | true =>
    rcases PyProof.Rows.lex_negTrans (O := itemOrd) _ (keyToks (D.py (rowKey b))) _ e with q | q
    · have k' : PyProof.Rows.lexLt itemOrd (keyToks (D.py (rowKey c))) (keyToks (D.py (rowKey b))) = false := k
      rw [k'] at q
      cases q
    · have h' : PyProof.Rows.lexLt itemOrd (keyToks (D.py (rowKey b))) (keyToks (D.py (rowKey a))) = false := h
      rw [h'] at q
      cases q
theorem rowLe_total (a b : D) : (rowLe a b || rowLe b a) = true := by
  rw [rowLe_eq, rowLe_eq]
  cases e : dataLt (D.py (rowKey b)) (D.py (rowKey a)) with
  | false => rfl
  | true =>
    rw [lt_asym e]
    rfl
theorem rowLe_refl (a : D) : rowLe a a = true := by
  have := rowLe_total a a
  simpa using this
theorem vKey_inj {d e : D} (h : isV d) (k : isV e) (q : vKey d = vKey e) : d = e := by
  rcases h with ⟨i, rfl⟩ | ⟨s, rfl, h⟩ <;> rcases k with ⟨j, rfl⟩ | ⟨t, rfl, k⟩ <;> simp [vKey] at q
  · rw [q]
  · rw [q]
theorem rowKey_inj : ∀ {vs ws : List D}, (∀ v ∈ vs, isV v) → (∀ v ∈ ws, isV v) → vs.map vKey = ws.map vKey → vs = ws
  | [], [], _, _, _ => rfl
  | [], _ :: _, _, _, e => by simp at e
  | _ :: _, [], _, _, e => by simp at e
  | v :: vs, w :: ws, h, k, e => by
    rw [List.map_cons, List.map_cons] at e
    injection e with e1 e2
    rw [vKey_inj (h v (by simp)) (k w (by simp)) e1, rowKey_inj (fun u hu => h u (by simp [hu])) (fun u hu => k u (by simp [hu])) e2]
theorem vKey_pl {d : D} (h : isV d) : pln (vKey d) = true := by
  rcases h with ⟨i, rfl⟩ | ⟨s, rfl, _⟩ <;> rfl
theorem keys_pl : ∀ {vs : List D}, (∀ v ∈ vs, isV v) → plns (vs.map vKey) = true
  | [], _ => rfl
  | v :: vs, h => by
    rw [List.map_cons, plns, vKey_pl (h v (by simp)), keys_pl fun u hu => h u (by simp [hu])]
    rfl
theorem rows_alike {vs ws : List D} (h : ∀ v ∈ vs, isV v) (k : ∀ v ∈ ws, isV v) : alike (D.py (.tup (vs.map vKey))) (D.py (.tup (ws.map vKey))) = true := by
  rw [D.py, D.py, alike]
  exact rowKey_alike h k
theorem rowLe_anti {vs ws : List D} (h : ∀ v ∈ vs, isV v) (k : ∀ v ∈ ws, isV v) (h1 : rowLe (.tup vs) (.tup ws) = true) (h2 : rowLe (.tup ws) (.tup vs) = true) : vs = ws := by
  rw [rowLe_eq, Bool.not_eq_true'] at h1 h2
  have e : D.eqv (.tup (vs.map vKey)) (.tup (ws.map vKey)) = true := lt_tri (rows_alike h k) h2 h1
  have e2 := (eqv_pl (.tup (vs.map vKey)) (.tup (ws.map vKey)) (by rw [pln]; exact keys_pl h) (by rw [pln]; exact keys_pl k)).mp e
  injection e2 with e2
  exact rowKey_inj h k e2
/-- the different rows, in order -/
structure SR (rows rs : List (List D)) : Prop where
  nd : rs.Nodup
  mem : ∀ r, r ∈ rs ↔ r ∈ rows
  srt : rs.Pairwise fun a b => rowLe (.tup a) (.tup b) = true
theorem SR.uniq {rows rows' rs ts : List (List D)} (hr : ∀ r ∈ rows, ∀ v ∈ r, isV v) (same : ∀ r, r ∈ rows' ↔ r ∈ rows) (h : SR rows rs) (k : SR rows' ts) : rs = ts := by
  have hp : rs.Perm ts := (List.perm_ext_iff_of_nodup h.nd k.nd).mpr fun r => by rw [h.mem, k.mem, same]
  exact hp.eq_of_pairwise (fun a b ha hb h1 h2 => rowLe_anti (hr a ((h.mem a).mp ha)) (hr b ((same b).mp ((k.mem b).mp hb))) h1 h2) h.srt k.srt
theorem rows_sortT {rows : List (List D)} (h : ∀ r ∈ rows, ∀ v ∈ r, isV v) : AllAlike (((rows.map D.tup).map rowKey).map D.py) ∧ SortOk (((rows.map D.tup).map rowKey).map D.py) ∧ ((rows.map D.tup).map rowKey).all (dOk 32) = true := by
  refine ⟨?_, .inr fun d hd => ?_, ?_⟩
  · intro d hd d' hd'
    simp only [List.mem_map] at hd hd'
    obtain ⟨_, ⟨_, ⟨e, he, rfl⟩, rfl⟩, rfl⟩ := hd
    obtain ⟨_, ⟨_, ⟨f, hf, rfl⟩, rfl⟩, rfl⟩ := hd'
    exact rows_alike (h e he) (h f hf)
  · simp only [List.mem_map] at hd
    obtain ⟨_, ⟨_, ⟨e, he, rfl⟩, rfl⟩, rfl⟩ := hd
    exact ⟨_, by simp only [rowKey, D.py] <;> rfl⟩
  · rw [List.all_map, List.all_map]
    refine List.all_eq_true.mpr fun e he => ?_
    show dOk 32 (.tup (e.map vKey)) = true
    rw [dOk_tup, List.all_map]
    exact List.all_eq_true.mpr fun v hv => vKey_ok (h e he v hv) 30
/-- the rows sorted by their keys -/
theorem sort_rows (rows : List (List D)) : ∃ us : List (List D), (rows.map D.tup).mergeSort rowLe = us.map D.tup ∧ us.Perm rows ∧ us.Pairwise fun a b => rowLe (.tup a) (.tup b) = true := by
  obtain ⟨us, hus, hperm⟩ := perm_map D.tup (xs := rows) (List.mergeSort_perm (rows.map D.tup) rowLe)
  refine ⟨us, hus, hperm, ?_⟩
  have hs := List.pairwise_mergeSort (le := rowLe) rowLe_trans rowLe_total (rows.map D.tup)
  rw [hus, List.pairwise_map] at hs
  exact hs
end
theorem isV_key {v : D} (h : isV v) : kOk v = true ∧ (nk v).depth = 0 := by
  rcases h with ⟨i, rfl⟩ | ⟨s, rfl, _⟩ <;> simp [kOk, nk, NestedKey.depth]
theorem row_keys : ∀ {vs : List D}, (∀ v ∈ vs, isV v) → kOks vs = true ∧ NestedKey.depthAll (nks vs) = 0
  | [], _ => by simp [kOks, nks, NestedKey.depthAll]
  | v :: vs, h => by
    obtain ⟨h1, h2⟩ := isV_key (h v (by simp))
    obtain ⟨h3, h4⟩ := row_keys (vs := vs) fun u hu => h u (by simp [hu])
    simp only [kOks, nks, NestedKey.depthAll, h1, h3, h2, h4, Bool.and_self, true_and]
    omega
theorem row_isKey {vs : List D} (h : ∀ v ∈ vs, isV v) : isKey (.tup vs) := by
  obtain ⟨h1, h2⟩ := row_keys h
  refine ⟨⟨_, rfl⟩, ?_, ?_⟩
  · simp [kOk, h1]
  · simp only [nk, NestedKey.depth]
    omega
theorem row_nk {vs ws : List D} (h : ∀ v ∈ vs, isV v) (k : ∀ v ∈ ws, isV v) : nk (.tup vs) = nk (.tup ws) ↔ vs = ws :=
  ⟨fun e => by have := nk_inj (row_isKey h).2.1 (row_isKey k).2.1 e; injection this, fun e => by rw [e]⟩
def kvsOf (ks : List (List D)) : List (D × D) := ks.map fun r => (.tup r, .bl true)
theorem dhas_rows {ks : List (List D)} {r : List D} (h : ∀ k ∈ ks, ∀ v ∈ k, isV v) (hr : ∀ v ∈ r, isV v) : dhas (kvsOf ks) (.tup r) = true ↔ r ∈ ks := by
  unfold dhas kvsOf
  rw [List.any_map, List.any_eq_true]
  constructor
  · rintro ⟨k, hk, e⟩
    have e2 : k = r := (row_nk (h k hk) hr).mp (by simpa using e)
    rw [← e2]
    exact hk
  · intro hk
    exact ⟨r, hk, by simp⟩
open Classical in
theorem dput_rows {ks : List (List D)} {r : List D} (h : ∀ k ∈ ks, ∀ v ∈ k, isV v) (hr : ∀ v ∈ r, isV v) : dput (kvsOf ks) (.tup r) (.bl true) = kvsOf (if r ∈ ks then ks else ks ++ [r]) := by
  split
  · next c =>
    unfold dput
    rw [if_pos ((dhas_rows h hr).mpr c)]
    unfold kvsOf
    rw [List.map_map]
    refine List.map_congr_left fun k hk => ?_
    simp only [Function.comp]
    split <;> rfl
  · next c =>
    have e : dhas (kvsOf ks) (.tup r) = false := by
      cases q : dhas (kvsOf ks) (.tup r) with
      | false => rfl
      | true => exact absurd ((dhas_rows h hr).mp q) c
    rw [dput_new e]
    unfold kvsOf
    rw [List.map_append]
    rfl
abbrev sp_sorted_rows : DSp := ar1 fun a M Q => ∃ rows : List (List D), dItems a M = some (rows.map D.tup) ∧ (∀ r ∈ rows, ∀ v ∈ r, isV v) ∧ ∀ rs, SR rows rs → ∀ p, M p = none → Q (.ref p) (mput M p (.lst (rs.map D.tup)))
theorem ok_sorted_rows (F : Def K mg "sorted_rows" s_sorted_rows ["rows"]) (B : Bi K mg) (I : Im mg) (c_row_key : Cal P w K mg base 2 "row_key" ["row"] sp_row_key) : Cal P w K mg base 5 "sorted_rows" ["rows"] sp_sorted_rows := by
  have sc := sc_sorted_rows
  refine F.cal sc (fun ds M Q h => len1 h) (fun f cdv A outer s H E hr => (ds_cons (ds_setDc (w := w) (i := 1) rfl (hu_8 hr) rfl sc.nd rfl rfl (sw_trueD rfl rfl rfl (by decide +kernel)) (own := [("row", 2)]) (di_seq (d_v 0)) (blkOk_by (N := N_sorted_rows) (sc := defScope s_sorted_rows) (by decide +kernel)) (by decide) (fun _ _ _ _ _ => (dg_name (i := 2) sc.nd rfl (Or.inl rfl))) (fun _ _ _ _ _ => dts_nil) (fun _ _ _ _ _ => (d_v 2)) (fun _ _ _ _ _ => d_bl))
    (ds_one (ds_ret (d_sortK c_row_key (hr.mono (by first | decide | omega)).in1.in1 rfl rfl B.b_sorted (da_cons (d_fz (d_ct (c_listK (w := w) rfl rfl) rfl B.b_list boot_list (da_cons (d_v 1) da_nil))) da_nil)))))) (fun ds M Q h => ?_)
  obtain ⟨a, rfl, rows, hrows, hv, h⟩ := h
  have hsrc : ∀ M1, MLe M M1 → SrcV (rows.map D.tup, dAt a) M1 := fun M1 le b e => by
    cases a with
    | ref c =>
      cases e
      rw [dItems_rf] at hrows
      cases q : M b with
      | none => rw [q] at hrows; cases hrows
      | some o =>
        rw [q] at hrows
        cases o with
        | lst xs =>
          injection hrows with hrows
          rw [le _ _ q, hrows]
        | _ => cases hrows
    | _ => cases e
  walk_at "st"
  refine ⟨_, hrows, fun _ p hp => ?_⟩
  refine dc_ind (fun items acc M1 => ∃ (rest dn ks : List (List D)), items = rest.map D.tup ∧ dn ++ rest = rows ∧ acc = kvsOf ks ∧ M1 = mput M p (.dct w (kvsOf ks)) ∧ ks.Nodup ∧ ∀ r, r ∈ ks ↔ r ∈ dn) ?_ ?_ _ _ _ ⟨rows, [], [], rfl, rfl, rfl, rfl, .nil, by simp⟩
  · rintro acc M1 ⟨rest, dn, ks, hi, hd, rfl, rfl, hnd, hmem⟩
    refine ⟨hsrc _ ((MLe.refl M).put hp), ?_⟩
    cases rest with
    | cons x r => cases hi
    | nil =>
      rw [List.append_nil] at hd
      subst hd
      have hvk : ∀ r ∈ ks, ∀ v ∈ r, isV v := fun r hr => hv r ((hmem r).mp hr)
      have ek : (kvsOf ks).map (·.1) = ks.map D.tup := by
        unfold kvsOf
        rw [List.map_map]
        rfl
      obtain ⟨k1, k2, k3⟩ := rows_sortT hvk
      obtain ⟨us, hus, hperm, hsrt⟩ := sort_rows ks
      walk_at "rd"
      refine ⟨_, rfl, fun q hq => ⟨_, rfl, ?_⟩⟩
      rw [mdel_mput hq]
      rw [ek]
      refine ⟨rowKey, fun x hx Q' hq' => ?_, k3, k1, k2, fun t ht => ?_⟩
      · obtain ⟨r, hr', rfl⟩ := List.mem_map.mp hx
        exact ⟨r, rfl, hvk r hr', hq'⟩
      · rw [show (List.map D.tup ks).mergeSort (PySem.W.dataLe false fun x => D.py (rowKey x)) = us.map D.tup from hus]
        have htp : t ≠ p := fun e => by rw [e, mput_same] at ht; cases ht
        have htM : M t = none := by rw [mput_ne htp] at ht; exact ht
        refine ret_le (MLe.both ((MLe.refl M).put hp)) (h us ⟨hperm.nodup_iff.mpr hnd, fun r => hperm.mem_iff.trans (hmem r), hsrt⟩ t htM)
  · rintro z items acc M1 Cn hC ⟨rest, dn, ks, hi, hd, rfl, rfl, hnd, hmem⟩
    refine ⟨hsrc _ ((MLe.refl M).put hp), ?_⟩
    cases rest with
    | nil => cases hi
    | cons r rest =>
      rw [List.map_cons] at hi
      injection hi with h1 h2
      subst h1
      subst h2
      have hrv : ∀ v ∈ r, isV v := hv r (by rw [← hd]; simp)
      have hvk : ∀ k ∈ ks, ∀ v ∈ k, isV v := fun k hk => hv k (by rw [← hd]; exact List.mem_append_left _ ((hmem k).mp hk))
      walk_at "s1"
      refine ⟨row_isKey hrv, ?_⟩
      rw [dput_rows hvk hrv]
      refine hC _ _ ⟨rest, dn ++ [r], _, rfl, by rw [← hd]; simp, rfl, rfl, ?_, fun x => ?_⟩
      · split
        · exact hnd
        · next c =>
          rw [List.nodup_append]
          refine ⟨hnd, by simp, fun x hx y hy => ?_⟩
          have hy' : y = r := by simpa using hy
          rw [hy']
          exact fun e => c (e ▸ hx)
      · rw [List.mem_append, List.mem_singleton, ← hmem]
        split
        · next c => exact ⟨.inl, fun z => z.elim id fun z => z ▸ c⟩
        · rw [List.mem_append, List.mem_singleton]
abbrev sp_l_sorted_rows : DSp := ar1 fun a M Q => ∃ rows : List (List D), a = .lst (rows.map D.tup) ∧ rows.length ≤ 1000 ∧ (∀ r ∈ rows, ∀ v ∈ r, isV v) ∧ ∀ rs : List (List D), SR rows rs → Q (.lst (rs.map D.tup)) M
theorem ok_l_sorted_rows (F : Def K mg "_law_sorted_rows" s_l_sorted_rows ["rows"]) (B : Bi K mg) (I : Im mg) (c_l_row_key : Cal P w K mg base 2 "_law_row_key" ["row"] sp_l_row_key) : Cal P w K mg base 5 "_law_sorted_rows" ["rows"] sp_l_sorted_rows := by
  have sc := sc_l_sorted_rows
  refine F.cal sc (fun ds M Q h => len1 h) (fun f cdv A outer s H E hr => (ds_cons (ds_set (i := 1) sc.nd rfl (Or.inl rfl) (d_lst da_nil))
    (ds_cons (ds_for PassesOwn.never rfl (di_seq (d_fz (d_sortK c_l_row_key (hr.mono (by first | decide | omega)).in1.in1 rfl rfl B.b_sorted (da_cons (d_v 0) da_nil)))) (dg_name (i := 2) sc.nd rfl (Or.inl rfl))
    (ds_one (ds_if (dt_w (dw_or (dt_cmp (o_eq (hu_eq hr)) (d_cb c_len rfl B.b_len boot_len (da_cons (d_v 1) da_nil)) d_int (nomark _)) (dw_or1 (dt_cmp (o_ne (hu_eq hr)) (d_ix x_ix (d_v 1) (d_neg d_int) (fun _ _ => rfl)) (d_v 2) (nomark _)))))
    (ds_one (ds_expr (d_mt PySem.F.slot_list_append PySem.F.type_list_append m_append (d_v 1) (da_cons (d_v 2) da_nil))))
    ds_nil)))
    (ds_one (ds_ret (d_fz (d_v 1))))))) (fun ds M Q h => ?_)
  obtain ⟨a, rfl, rows, rfl, hl, hr, h⟩ := h
  walk_at "st"
  intro q hq
  obtain ⟨k1, k2, k3⟩ := rows_sortT hr
  walk_at "st"
  refine ⟨rowKey, fun x hx Q' hq' => ?_, k3, k1, k2, fun p1 hp1 => ?_⟩
  · obtain ⟨r, hr', rfl⟩ := List.mem_map.mp hx
    exact ⟨r, rfl, hr r hr', hq'⟩
  obtain ⟨us, hus, hperm, hsrt⟩ := sort_rows rows
  have hul := hperm.length_eq
  refine ⟨_, rfl, fun _ => ?_⟩
  rw [mdel_mput hp1, show (List.map D.tup rows).mergeSort (PySem.W.dataLe false fun x => D.py (rowKey x)) = us.map D.tup from hus]
  refine for_ind (fun items m1 M1 => ∃ (rest dn fs : List (List D)) (x2 : Option D), items = rest.map D.tup ∧ dn ++ rest = us ∧ M1 = mput M q (.lst (fs.map D.tup)) ∧ fs.Nodup ∧ (∀ r, r ∈ fs ↔ r ∈ dn) ∧ fs.Pairwise (fun a b => rowLe (.tup a) (.tup b) = true) ∧ fs.length ≤ dn.length ∧ m1 = [some (.lst (rows.map D.tup)), some (.ref q), x2]) ?_ ?_ _ _ _ ⟨us, [], [], _, rfl, rfl, rfl, .nil, by simp, .nil, by simp, rfl⟩
  · rintro m1 M1 ⟨rest, dn, fs, x2, hi, hd, rfl, hnd, hmem, hs, _, rfl⟩
    refine ⟨srcV_none, ?_⟩
    cases rest with
    | cons x r => cases hi
    | nil =>
      rw [List.append_nil] at hd
      subst hd
      walk_at "rd"
      refine ⟨_, rfl, ?_⟩
      rw [mdel_mput hq]
      exact ret_of (h fs ⟨hnd, fun r => (hmem r).trans hperm.mem_iff, hs⟩)
  · rintro z items m1 M1 Cn hC ⟨rest, dn, fs, x2, hi, hd, rfl, hnd, hmem, hs, hfl, rfl⟩
    refine ⟨srcV_none, ?_⟩
    cases rest with
    | nil => cases hi
    | cons r rest =>
      rw [List.map_cons] at hi
      injection hi with h1 h2
      subst h1
      subst h2
      have hrm : r ∈ rows := hperm.mem_iff.mp (by rw [← hd]; simp)
      have hfm : ∀ f ∈ fs, f ∈ rows := fun f hf => hperm.mem_iff.mp (by rw [← hd]; exact List.mem_append_left _ ((hmem f).mp hf))
      have hfl2 : fs.length ≤ 1000 := by
        rw [← hd, List.length_append] at hul
        omega
      have hd2 : (dn ++ [r]) ++ rest = us := by rw [← hd]; simp
      have hle : ∀ f ∈ fs, rowLe (.tup f) (.tup r) = true := fun f hf => by
        rw [← hd, List.pairwise_append] at hsrt
        exact hsrt.2.2 f ((hmem f).mp hf) r (by simp)
      have push : r ∉ fs → fg Cn [some (.lst (rows.map D.tup)), some (.ref q), some (.tup r)] (mput M q (.lst (fs.map D.tup ++ [.tup r]))) := fun hn => fg_of (hC _ _ ⟨rest, dn ++ [r], fs ++ [r], _, rfl, hd2, by rw [List.map_append]; rfl, by
        rw [List.nodup_append]
        exact ⟨hnd, by simp, fun x hx y hy e => hn (by
          have hy' : y = r := by simpa using hy
          rw [← hy', ← e]
          exact hx)⟩, fun x => by simp only [List.mem_append, hmem], by
        rw [List.pairwise_append]
        exact ⟨hs, by simp, fun x hx y hy => by
          have hy' : y = r := by simpa using hy
          rw [hy']
          exact hle x hx⟩, by simp only [List.length_append, List.length_singleton]; omega, rfl⟩)
      walk_at "rd"
      rw [List.length_map]
      split
      · next c =>
        have : fs = [] := List.eq_nil_of_length_eq_zero (by omega)
        subst this
        exact ⟨⟨_, rfl⟩, _, rfl, by rw [List.length_map]; omega, push (by simp)⟩
      · next c =>
        cases e : fs.getLast? with
        | none =>
          rw [List.getLast?_eq_none_iff.mp e] at c
          exact absurd rfl c
        | some l =>
          have hlm : l ∈ fs := List.mem_of_getLast? e
          have hlv := hr l (hfm l hlm)
          refine ⟨.tup l, by rw [List.getLast?_map, e]; rfl, by rw [dOk_tup]; exact row_ok hlv 63, row_ok (hr r hrm) 63, ?_⟩
          have pl1 : pln (.tup l) = true := by rw [pln]; exact row_pl hlv
          have pl2 : pln (.tup r) = true := by rw [pln]; exact row_pl (hr r hrm)
          split
          · next c2 =>
            refine ⟨⟨_, rfl⟩, _, rfl, by rw [List.length_map]; omega, push fun hm => ?_⟩
            have hl2 : rowLe (.tup r) (.tup l) = true := by
              obtain ⟨pre, rfl⟩ := List.getLast?_eq_some_iff.mp e
              rcases List.mem_append.mp hm with hm | hm
              · exact (List.pairwise_append.mp hs).2.2 r hm l (by simp)
              · have : r = l := by simpa using hm
                rw [this]
                exact rowLe_refl _
            have : l = r := rowLe_anti hlv (hr r hrm) (hle l hlm) hl2
            rw [this, (eqv_pl _ _ pl2 pl2).mpr rfl] at c2
            cases c2
          · next c2 =>
            have e3 : l = r := by
              have := (eqv_pl _ _ pl1 pl2).mp (by simpa using c2)
              injection this
            refine fg_of (hC _ _ ⟨rest, dn ++ [r], fs, _, rfl, hd2, rfl, hnd, fun x => ?_, hs, by rw [List.length_append]; omega, rfl⟩)
            rw [List.mem_append, List.mem_singleton, ← hmem]
            exact ⟨.inl, fun z => z.elim id fun z => by rw [z, ← e3]; exact hlm⟩
/-! ### entries of a schema: a name, how many keys, how many others -/
abbrev Ent := Str × Nat × Nat
def enE (e : Ent) : D := .tup [.str e.1, .int e.2.1, .int e.2.2]
theorem items_enE {e : Ent} {M : DM} : dItems (enE e) M = some [.str e.1, .int e.2.1, .int e.2.2] := rfl
local macro_rules | `(tactic| walk_at "rd") => `(tactic| simp only [dSeq, dSet, dIf, dTst, dOp, dVar, dC, dRet, dRetN, dNext, dDrop, dBreak, dCont, dAnd, dOr, dNot, dAndV, dOrV, dNotV, dIfE, dTup, dLstF, dLst, dCons, dNil, dCB, dCall, dUn, dNegI, dI, dI0, dEq, dNe, dIs, dIsNot, dIn, dNotIn, dIx, isN_non, isN_bl, isN_int, isN_str, isN_tup, isN_lst, isN_rf, DL.rLen, rInt, rAbs, rMax2, rMin2, DL.rGcd, rTuple, rList, rIs, rIsT, ar0, ar1, ar2, ar3, ar4, ar5, ar6, ar7, ar8, dEnds, dMt, dMt0, mAppend, mPop, mReverse, dSetL, dPut, dAsg, dgName, dgTup, dgCons, dgNil, dFor, diSeq, diRng1, diRng2, dLcF, dLc, dwipe, dFz, dstart, List.map_cons, List.map_nil, List.length_cons, List.length_nil, List.cons_append, List.nil_append, List.append_nil, List.replicate, Nat.reduceAdd, Nat.reduceSub, Nat.reduceLeDiff, Int.reduceNeg, List.set_cons_zero, List.set_cons_succ, List.getElem?_cons_zero, List.getElem?_cons_succ, Option.some.injEq, exists_eq_left', exists_eq_left, exists_eq_right, exists_eq, exists_and_left, exists_and_right, D.int.injEq, D.bl.injEq, D.str.injEq, D.tup.injEq, D.lst.injEq, D.ref.injEq, D.ty.injEq, D.dct.injEq, List.cons.injEq, and_assoc, and_true, true_and, and_self, reduceCtorEq, false_and, and_false, if_true, if_false, if_pos, ite_true, ite_false, Bool.false_eq_true, decide_eq_true_eq, Bool.not_eq_true', decide_eq_false_iff_not, Bool.not_true, Bool.not_false, decide_true, decide_false, eqv_int, eqv_str, eqv_bl, dOk_int, dOk_bl, dOk_non, dOk_tup, dOk_lst, dOk_str, List.all_cons, List.all_nil, Bool.and_true, Bool.true_and, Bool.and_self, dItems_tup, dItems_lst, dItems_rf, CMulA, CDivA, CPowA, Int.reduceLT, Int.reduceLE, Int.reducePow, Int.reduceToNat, Int.reduceMul, Int.reduceAdd, Int.reduceSub, Nat.reducePow, true_or, or_true, ne_eq, not_false_eq_true, not_true_eq_false, dAt_tup, dAt_lst, dAt_rf, dLenOf_tup, dLenOf_lst, dLenOf_rf, dLenOf_str, dTyN_non, dTyN_bl, dTyN_int, dTyN_str, dTyN_tup, dTyN_lst, dTyN_dct, dTyN_rf, dIntOf_int, dIntOf_bl, knownT, subT, atI_0, atI_1, atI_2, atI_3, atI_4, atI_5, atI_neg1, mput_same, mput_mput, eqv_non, tyNames, Option.map_some, String.reduceBEq, Bool.or_true, Bool.true_or, Bool.or_false, Bool.false_or, Bool.false_and, Bool.and_false, beq_self_eq_true, BEq.rfl, List.any_cons, List.any_nil, sizeLine_eq, rLenB, Bool.true_eq_false, implies_true, Nat.zero_le, Bool.or_self, String.reduceEq, dAdd_ii, dAdd_ss, dAdd_tt, dMulA_ii, dMulA_si, dIxS_str, dIxS_tup, dIxS_lst, dIxS_ref, dCat, dCatF, dRep, dSl, dNoP, dPart, dJoin, mExtend, mIndex, rAnyL, rAllL, rSumL, rMaxL, rMinL, dLRg, diEnum, rSortD, dLc2F, dLc2, dYes, diEnumT, dSlS, rSortK, dFzS, dTupRev, diRev, diZip, dMulT, zipD, dDc, dDGet1, dLtD, dGtD, rListK, dUpper, diStr, dInS, dSortL, dSortSet, dStar, rIntS, rStrI, dKIx, dKIn, dKNotIn, rLenK, dKNew, dFzK, dFzD, dKPut, diKeys, diVals, diItems, mInsert, mPopAt, dKGet1, dKGet2, dKc, dDict_dct, dDict_put, isKb_int, isKb_str, true_implies, false_implies, dDIx, dDIn, dDNotIn, dSetD, dDNew, dSortLen, sortLenB, rSortO, dMIx, dMIn, dMNotIn, dMGet2, diMItems, diMKeys, dFzM, dFzMS, dDSetDf, dDGet2, items_enE])
local macro_rules | `(tactic| walk_at "st") => `(tactic| (refine seq_i ?_; simp only [dSet, dIf, dTst, dOp, dVar, dC, dRet, dRetN, dNext, dDrop, dBreak, dCont, dAnd, dOr, dNot, dAndV, dOrV, dNotV, dIfE, dTup, dLstF, dLst, dCons, dNil, dCB, dCall, dUn, dNegI, dI, dI0, dEq, dNe, dIs, dIsNot, dIn, dNotIn, dIx, isN_non, isN_bl, isN_int, isN_str, isN_tup, isN_lst, isN_rf, DL.rLen, rInt, rAbs, rMax2, rMin2, DL.rGcd, rTuple, rList, rIs, rIsT, ar0, ar1, ar2, ar3, ar4, ar5, ar6, ar7, ar8, dEnds, dMt, dMt0, mAppend, mPop, mReverse, dSetL, dPut, dAsg, dgName, dgTup, dgCons, dgNil, dFor, diSeq, diRng1, diRng2, dLcF, dLc, dwipe, dFz, dstart, List.map_cons, List.map_nil, List.length_cons, List.length_nil, List.cons_append, List.nil_append, List.append_nil, List.replicate, Nat.reduceAdd, Nat.reduceSub, Nat.reduceLeDiff, Int.reduceNeg, List.set_cons_zero, List.set_cons_succ, List.getElem?_cons_zero, List.getElem?_cons_succ, Option.some.injEq, exists_eq_left', exists_eq_left, exists_eq_right, exists_eq, exists_and_left, exists_and_right, D.int.injEq, D.bl.injEq, D.str.injEq, D.tup.injEq, D.lst.injEq, D.ref.injEq, D.ty.injEq, D.dct.injEq, List.cons.injEq, and_assoc, and_true, true_and, and_self, reduceCtorEq, false_and, and_false, if_true, if_false, if_pos, ite_true, ite_false, Bool.false_eq_true, decide_eq_true_eq, Bool.not_eq_true', decide_eq_false_iff_not, Bool.not_true, Bool.not_false, decide_true, decide_false, eqv_int, eqv_str, eqv_bl, dOk_int, dOk_bl, dOk_non, dOk_tup, dOk_lst, dOk_str, List.all_cons, List.all_nil, Bool.and_true, Bool.true_and, Bool.and_self, dItems_tup, dItems_lst, dItems_rf, CMulA, CDivA, CPowA, Int.reduceLT, Int.reduceLE, Int.reducePow, Int.reduceToNat, Int.reduceMul, Int.reduceAdd, Int.reduceSub, Nat.reducePow, true_or, or_true, ne_eq, not_false_eq_true, not_true_eq_false, dAt_tup, dAt_lst, dAt_rf, dLenOf_tup, dLenOf_lst, dLenOf_rf, dLenOf_str, dTyN_non, dTyN_bl, dTyN_int, dTyN_str, dTyN_tup, dTyN_lst, dTyN_dct, dTyN_rf, dIntOf_int, dIntOf_bl, knownT, subT, atI_0, atI_1, atI_2, atI_3, atI_4, atI_5, atI_neg1, mput_same, mput_mput, eqv_non, tyNames, Option.map_some, String.reduceBEq, Bool.or_true, Bool.true_or, Bool.or_false, Bool.false_or, Bool.false_and, Bool.and_false, beq_self_eq_true, BEq.rfl, List.any_cons, List.any_nil, sizeLine_eq, rLenB, Bool.true_eq_false, implies_true, Nat.zero_le, Bool.or_self, String.reduceEq, dAdd_ii, dAdd_ss, dAdd_tt, dMulA_ii, dMulA_si, dIxS_str, dIxS_tup, dIxS_lst, dIxS_ref, dCat, dCatF, dRep, dSl, dNoP, dPart, dJoin, mExtend, mIndex, rAnyL, rAllL, rSumL, rMaxL, rMinL, dLRg, diEnum, rSortD, dLc2F, dLc2, dYes, diEnumT, dSlS, rSortK, dFzS, dTupRev, diRev, diZip, dMulT, zipD, dDc, dDGet1, dLtD, dGtD, rListK, dUpper, diStr, dInS, dSortL, dSortSet, dStar, rIntS, rStrI, dKIx, dKIn, dKNotIn, rLenK, dKNew, dFzK, dFzD, dKPut, diKeys, diVals, diItems, mInsert, mPopAt, dKGet1, dKGet2, dKc, dDict_dct, dDict_put, isKb_int, isKb_str, true_implies, false_implies, dDIx, dDIn, dDNotIn, dSetD, dDNew, dSortLen, sortLenB, rSortO, dMIx, dMIn, dMNotIn, dMGet2, diMItems, diMKeys, dFzM, dFzMS, dDSetDf, dDGet2, items_enE]))
local macro_rules | `(tactic| walk_at "p") => `(tactic| simp only [dRet, dOp, dVar, dCall, dCB, dCons, dNil, ar0, ar1, ar2, ar3, ar4, ar5, DL.rLen, dIx, dEnds, dstart, List.map_cons, List.map_nil, List.length_cons, List.length_nil, List.cons_append, List.nil_append, List.replicate, Nat.reduceAdd, Nat.reduceSub, Nat.reduceLeDiff, List.getElem?_cons_zero, List.getElem?_cons_succ, Option.some.injEq, exists_eq_left', exists_eq_left, exists_and_left, exists_and_right, List.cons.injEq, and_assoc, and_true, true_and, D.ref.injEq, D.int.injEq])
local macro_rules | `(tactic| walk_at "s1") => `(tactic| simp only [dSet, dIf, dTst, dOp, dVar, dC, dRet, dRetN, dNext, dDrop, dBreak, dCont, dAnd, dOr, dNot, dAndV, dOrV, dNotV, dIfE, dTup, dLstF, dLst, dCons, dNil, dCB, dCall, dUn, dNegI, dI, dI0, dEq, dNe, dIs, dIsNot, dIn, dNotIn, dIx, isN_non, isN_bl, isN_int, isN_str, isN_tup, isN_lst, isN_rf, DL.rLen, rInt, rAbs, rMax2, rMin2, DL.rGcd, rTuple, rList, rIs, rIsT, ar0, ar1, ar2, ar3, ar4, ar5, ar6, ar7, ar8, dEnds, dMt, dMt0, mAppend, mPop, mReverse, dSetL, dPut, dAsg, dgName, dgTup, dgCons, dgNil, dFor, diSeq, diRng1, diRng2, dLcF, dLc, dwipe, dFz, dstart, List.map_cons, List.map_nil, List.length_cons, List.length_nil, List.cons_append, List.nil_append, List.append_nil, List.replicate, Nat.reduceAdd, Nat.reduceSub, Nat.reduceLeDiff, Int.reduceNeg, List.set_cons_zero, List.set_cons_succ, List.getElem?_cons_zero, List.getElem?_cons_succ, Option.some.injEq, exists_eq_left', exists_eq_left, exists_eq_right, exists_eq, exists_and_left, exists_and_right, D.int.injEq, D.bl.injEq, D.str.injEq, D.tup.injEq, D.lst.injEq, D.ref.injEq, D.ty.injEq, D.dct.injEq, List.cons.injEq, and_assoc, and_true, true_and, and_self, reduceCtorEq, false_and, and_false, if_true, if_false, if_pos, ite_true, ite_false, Bool.false_eq_true, decide_eq_true_eq, Bool.not_eq_true', decide_eq_false_iff_not, Bool.not_true, Bool.not_false, decide_true, decide_false, eqv_int, eqv_str, eqv_bl, dOk_int, dOk_bl, dOk_non, dOk_tup, dOk_lst, dOk_str, List.all_cons, List.all_nil, Bool.and_true, Bool.true_and, Bool.and_self, dItems_tup, dItems_lst, dItems_rf, CMulA, CDivA, CPowA, Int.reduceLT, Int.reduceLE, Int.reducePow, Int.reduceToNat, Int.reduceMul, Int.reduceAdd, Int.reduceSub, Nat.reducePow, true_or, or_true, ne_eq, not_false_eq_true, not_true_eq_false, dAt_tup, dAt_lst, dAt_rf, dLenOf_tup, dLenOf_lst, dLenOf_rf, dLenOf_str, dTyN_non, dTyN_bl, dTyN_int, dTyN_str, dTyN_tup, dTyN_lst, dTyN_dct, dTyN_rf, dIntOf_int, dIntOf_bl, knownT, subT, atI_0, atI_1, atI_2, atI_3, atI_4, atI_5, atI_neg1, mput_same, mput_mput, eqv_non, tyNames, Option.map_some, String.reduceBEq, Bool.or_true, Bool.true_or, Bool.or_false, Bool.false_or, Bool.false_and, Bool.and_false, beq_self_eq_true, BEq.rfl, List.any_cons, List.any_nil, sizeLine_eq, rLenB, Bool.true_eq_false, implies_true, Nat.zero_le, Bool.or_self, String.reduceEq, dAdd_ii, dAdd_ss, dAdd_tt, dMulA_ii, dMulA_si, dIxS_str, dIxS_tup, dIxS_lst, dIxS_ref, dCat, dCatF, dRep, dSl, dNoP, dPart, dJoin, mExtend, mIndex, rAnyL, rAllL, rSumL, rMaxL, rMinL, dLRg, diEnum, rSortD, dLc2F, dLc2, dYes, diEnumT, dSlS, rSortK, dFzS, dTupRev, diRev, diZip, dMulT, zipD, dDc, dDGet1, dLtD, dGtD, rListK, dUpper, diStr, dInS, dSortL, dSortSet, dStar, rIntS, rStrI, dKIx, dKIn, dKNotIn, rLenK, dKNew, dFzK, dFzD, dKPut, diKeys, diVals, diItems, mInsert, mPopAt, dKGet1, dKGet2, dKc, dDict_dct, dDict_put, isKb_int, isKb_str, true_implies, false_implies, dDIx, dDIn, dDNotIn, dSetD, dDNew, dSortLen, sortLenB, rSortO, dMIx, dMIn, dMNotIn, dMGet2, diMItems, diMKeys, dFzM, dFzMS, dDSetDf, dDGet2, items_enE])
def unE : D → Ent
  | .tup [.str n, .int k, .int o] => (n, k.toNat, o.toNat)
  | _ => ("", 0, 0)
theorem unE_enE (e : Ent) : unE (enE e) = e := by
  obtain ⟨n, k, o⟩ := e
  simp [unE, enE]
theorem sort_ents (es : List Ent) : ∃ fs : List Ent, srtD (es.map enE) = fs.map enE ∧ fs.Perm es := by
  have hp := srtD_perm (es.map enE)
  refine ⟨(srtD (es.map enE)).map unE, ?_, ?_⟩
  · rw [List.map_map]
    conv => lhs; rw [← List.map_id (srtD (es.map enE))]
    refine List.map_congr_left fun x hx => ?_
    obtain ⟨e, _, rfl⟩ := List.mem_map.mp (hp.mem_iff.mp hx)
    show enE e = enE (unE (enE e))
    rw [unE_enE]
  · have := hp.map unE
    rw [List.map_map] at this
    have e : List.map (unE ∘ enE) es = es := by
      conv => rhs; rw [← List.map_id es]
      exact List.map_congr_left fun x _ => unE_enE x
    rw [e] at this
    exact this
open PySem.W (AllAlike Sortable alike alikeAll) in
theorem ents_alike (es : List Ent) : AllAlike ((es.map enE).map D.py) := by
  intro d hd d' hd'
  simp only [List.mem_map] at hd hd'
  obtain ⟨_, ⟨e, _, rfl⟩, rfl⟩ := hd
  obtain ⟨_, ⟨f, _, rfl⟩, rfl⟩ := hd'
  simp [enE, D.py, D.pys, alike, alikeAll]
open PySem.W (AllAlike Sortable alike alikeAll) in
theorem ents_sortable (es : List Ent) : Sortable ((es.map enE).map D.py) := by
  refine .inl fun d hd => ?_
  simp only [List.mem_map] at hd
  obtain ⟨_, ⟨e, _, rfl⟩, rfl⟩ := hd
  exact ⟨_, _, by simp only [enE, D.py, D.pys] <;> rfl⟩
theorem ents_ok {es : List Ent} (h : ∀ e ∈ es, PyData.strOk e.1 = true) : (es.map enE).all (dOk 32) = true := by
  rw [List.all_map]
  refine List.all_eq_true.mpr fun e he => ?_
  show dOk 32 (enE e) = true
  simp [enE, dOk_str, h e he]

abbrev sp_table_of : DSp := ar2 fun a b M Q => ∃ (sc : List Ent) (n : Str), a = .tup (sc.map enE) ∧ b = .str n ∧ PyData.strOk n = true ∧ (∀ e ∈ sc, PyData.strOk e.1 = true) ∧ Q (match sc.find? (fun e => decide (e.1 = n)) with
  | some e => enE e
  | none => .non) M
theorem ok_table_of (F : Def K mg "table_of" s_table_of ["schema", "name"]) (B : Bi K mg) (I : Im mg)  : Cal P w K mg base 1 "table_of" ["schema", "name"] sp_table_of := by
  have sc := sc_table_of
  refine F.cal sc (fun ds M Q h => len2 h) (fun f cdv A outer s H E hr => (ds_cons (ds_for PassesOwn.never rfl (di_seq (d_v 0)) (dg_name (i := 2) sc.nd rfl (Or.inl rfl))
    (ds_one (ds_if (dt_cmp (o_eq (hu_eq hr)) (d_ix x_ix (d_v 2) d_int (fun _ _ => rfl)) (d_v 1) (nomark _))
    (ds_one (ds_ret (d_v 2)))
    ds_nil)))
    (ds_one (ds_ret d_non)))) (fun ds M Q h => ?_)
  obtain ⟨a, b, rfl, sc, n, rfl, rfl, hn, hs, h⟩ := h
  walk_at "st"
  intro _
  refine for_ind (fun items m1 M1 => M1 = M ∧ ∃ (rest : List Ent) (x2 : Option D), items = rest.map enE ∧ (∀ e ∈ rest, PyData.strOk e.1 = true) ∧ Q (match rest.find? (fun e => decide (e.1 = n)) with
    | some e => enE e
    | none => .non) M ∧ m1 = [some (.tup (sc.map enE)), some (.str n), x2]) ?_ ?_ _ _ _ ⟨rfl, sc, _, rfl, hs, h, rfl⟩
  · rintro m1 M1 ⟨rfl, rest, x2, hi, _, hq, rfl⟩
    refine ⟨srcV_none, ?_⟩
    cases rest with
    | cons e r => cases hi
    | nil =>
      walk_at "rd"
      exact ret_of hq
  · rintro z items m1 M1 Cn hC ⟨rfl, rest, x2, hi, hr, hq, rfl⟩
    refine ⟨srcV_none, ?_⟩
    cases rest with
    | nil => cases hi
    | cons e rest =>
      rw [List.map_cons] at hi
      injection hi with h1 h2
      subst h1
      subst h2
      walk_at "s1"
      refine ⟨hr e (by simp), hn, ?_⟩
      rw [List.find?_cons] at hq
      split
      · next c =>
        rw [show decide (e.1 = n) = true from decide_eq_true c] at hq
        exact ret_of hq
      · next c =>
        rw [show decide (e.1 = n) = false from decide_eq_false c] at hq
        exact fg_of (hC _ _ ⟨rfl, rest, _, rfl, fun e he => hr e (by simp [he]), hq, rfl⟩)
abbrev sp_key_of : DSp := ar2 fun a b M Q => ∃ (e : Ent) (vs : List D), a = enE e ∧ b = .tup vs ∧ Q (.tup (vs.take e.2.1)) M
theorem ok_key_of (F : Def K mg "key_of" s_key_of ["table", "row"]) (B : Bi K mg) (I : Im mg)  : Cal P w K mg base 1 "key_of" ["table", "row"] sp_key_of := by
  have sc := sc_key_of
  refine F.cal sc (fun ds M Q h => len2 h) (fun f cdv A outer s H E hr => (ds_one (ds_ret (d_sl (d_v 1) dp_none (dp_some (d_ix x_ix (d_v 0) d_int (fun _ _ => rfl))))))) (fun ds M Q h => ?_)
  obtain ⟨a, b, rfl, e, vs, rfl, rfl, h⟩ := h
  walk_at "rd"
  rw [cutD_to]
  exact ret_of h
/-- the row's key, where the table is known -/
def keyL (sc : List Ent) (n : Str) (vs : List D) : Option (List D) := (sc.find? (fun e => decide (e.1 = n))).map fun e => vs.take e.2.1
abbrev sp_place_of : DSp := ar3 fun a b c M Q => ∃ (sc : List Ent) (n : Str) (vs ks : List D), a = .tup (sc.map enE) ∧ b = .str n ∧ c = .tup vs ∧ PyData.strOk n = true ∧ (∀ e ∈ sc, PyData.strOk e.1 = true) ∧ keyL sc n vs = some ks ∧ Q (.tup [.str n, .tup ks]) M
theorem ok_place_of (F : Def K mg "place_of" s_place_of ["schema", "name", "row"]) (B : Bi K mg) (I : Im mg) (c_table_of : Cal P w K mg base 1 "table_of" ["schema", "name"] sp_table_of) (c_key_of : Cal P w K mg base 1 "key_of" ["table", "row"] sp_key_of) : Cal P w K mg base 2 "place_of" ["schema", "name", "row"] sp_place_of := by
  have sc := sc_place_of
  refine F.cal sc (fun ds M Q h => len3 h) (fun f cdv A outer s H E hr => (ds_one (ds_ret (d_tup (da_cons (d_v 1) (da_cons (d_call c_key_of (hr.mono (by first | decide | omega)) rfl (da_cons (d_call c_table_of (hr.mono (by first | decide | omega)) rfl (da_cons (d_v 0) (da_cons (d_v 1) da_nil))) (da_cons (d_v 2) da_nil))) da_nil)))))) (fun ds M Q h => ?_)
  obtain ⟨a, b, c, rfl, sc, n, vs, ks, rfl, rfl, rfl, hn, hs, hk, h⟩ := h
  unfold keyL at hk
  cases q : sc.find? (fun e => decide (e.1 = n)) with
  | none =>
    rw [q] at hk
    cases hk
  | some e =>
    rw [q] at hk
    cases hk
    walk_at "rd"
    refine ⟨sc, rfl, hn, hs, ?_⟩
    rw [q]
    exact ⟨e, rfl, ret_of h⟩
/-! ### spans -/
abbrev St := Int × Option Int
def oD : Option Int → D
  | none => .non
  | some i => .int i
def stD (s : St) : D := .tup [.int s.1, oD s.2]
def inS (s : St) (m : Int) : Bool := decide (s.1 ≤ m) && (match s.2 with | none => true | some e => decide (m < e))
def hasS (ss : List St) (m : Int) : Bool := ss.any fun s => inS s m
/-- a stretch that has a moment -/
def okS (s : St) : Prop := 0 ≤ s.1 ∧ ∀ e, s.2 = some e → s.1 < e
/-- stretches apart, in their order -/
def apart (x y : St) : Prop := ∃ e, x.2 = some e ∧ e < y.1
structure Can (ss : List St) : Prop where
  ok : ∀ s ∈ ss, okS s
  ap : ss.Pairwise apart
theorem inS_iff {s : St} {m : Int} : inS s m = true ↔ s.1 ≤ m ∧ ∀ e, s.2 = some e → m < e := by
  unfold inS
  cases s.2 with
  | none => simp
  | some e => simp
theorem hasS_iff {ss : List St} {m : Int} : hasS ss m = true ↔ ∃ s ∈ ss, s.1 ≤ m ∧ ∀ e, s.2 = some e → m < e := by
  unfold hasS
  rw [List.any_eq_true]
  exact ⟨fun ⟨s, hs, h⟩ => ⟨s, hs, inS_iff.mp h⟩, fun ⟨s, hs, h⟩ => ⟨s, hs, inS_iff.mpr h⟩⟩
theorem hasS_ext {ss ts : List St} {m n : Int} (h : hasS ss m = true ↔ hasS ts n = true) : hasS ss m = hasS ts n := Bool.eq_iff_iff.mpr h
theorem can_cons {x : St} {r : List St} (h : Can (x :: r)) : okS x ∧ (∀ y ∈ r, apart x y) ∧ Can r := by
  have h2 := List.pairwise_cons.mp h.ap
  exact ⟨h.ok x (by simp), h2.1, fun s hs => h.ok s (by simp [hs]), h2.2⟩
/-- a span is told by its moments -/
theorem can_uniq : ∀ {ss ts : List St}, Can ss → Can ts → (∀ m, hasS ss m = hasS ts m) → ss = ts
  | [], [], _, _, _ => rfl
  | [], y :: ts, _, ht, e => by
    have h := (can_cons ht).1
    have q : hasS (y :: ts) y.1 = true := hasS_iff.mpr ⟨y, by simp, Int.le_refl _, h.2⟩
    rw [← e] at q
    exact absurd q (by simp [hasS])
  | x :: ss, [], hs, _, e => by
    have h := (can_cons hs).1
    have q : hasS (x :: ss) x.1 = true := hasS_iff.mpr ⟨x, by simp, Int.le_refl _, h.2⟩
    rw [e] at q
    exact absurd q (by simp [hasS])
  | x :: ss, y :: ts, hs, ht, e => by
    obtain ⟨x1, x2, x3⟩ := can_cons hs
    obtain ⟨y1, y2, y3⟩ := can_cons ht
    -- who begins later has none of the earlier moments
    have first : ∀ {x y : St} {ss ts : List St}, okS x → okS y → (∀ z ∈ ts, apart y z) → (∀ m, hasS (x :: ss) m = hasS (y :: ts) m) → y.1 ≤ x.1 := by
      intro x y ss ts x1 y1 y2 e
      have q : hasS (x :: ss) x.1 = true := hasS_iff.mpr ⟨x, by simp, Int.le_refl _, x1.2⟩
      rw [e] at q
      obtain ⟨z, hz, z1, _⟩ := hasS_iff.mp q
      rcases List.mem_cons.mp hz with rfl | hz
      · exact z1
      · obtain ⟨e', h1, h2⟩ := y2 z hz
        have := y1.2 e' h1
        omega
    have hb : x.1 = y.1 := Int.le_antisymm (first y1 x1 x2 fun m => (e m).symm) (first x1 y1 y2 e)
    have ends : ∀ {x y : St} {ss ts : List St}, okS x → (∀ z ∈ ss, apart x z) → x.1 = y.1 → okS y → (∀ m, hasS (x :: ss) m = hasS (y :: ts) m) → ∀ a, x.2 = some a → ∃ b, y.2 = some b ∧ b ≤ a := by
      intro x y ss ts x1 x2 hb y1 e a ha
      have q : hasS (x :: ss) a = false := by
        cases q : hasS (x :: ss) a with
        | false => rfl
        | true =>
          obtain ⟨z, hz, z1, z2⟩ := hasS_iff.mp q
          rcases List.mem_cons.mp hz with rfl | hz
          · have := z2 a ha
            omega
          · obtain ⟨e', h1, h2⟩ := x2 z hz
            rw [ha] at h1
            cases h1
            omega
      rw [e] at q
      cases hy : y.2 with
      | none =>
        have : hasS (y :: ts) a = true := hasS_iff.mpr ⟨y, by simp, by have := x1.2 a ha; omega, fun e' h => by rw [hy] at h; cases h⟩
        rw [this] at q
        cases q
      | some b =>
        refine ⟨b, rfl, ?_⟩
        by_cases c : b ≤ a
        · exact c
        · have : hasS (y :: ts) a = true := hasS_iff.mpr ⟨y, by simp, by have := x1.2 a ha; omega, fun e' h => by rw [hy] at h; cases h; omega⟩
          rw [this] at q
          cases q
    have he : x.2 = y.2 := by
      cases hx : x.2 with
      | none =>
        cases hy : y.2 with
        | none => rfl
        | some b =>
          obtain ⟨a, h1, _⟩ := ends y1 y2 hb.symm x1 (fun m => (e m).symm) b hy
          rw [hx] at h1
          cases h1
      | some a =>
        obtain ⟨b, h1, h2⟩ := ends x1 x2 hb y1 e a hx
        obtain ⟨a', h3, h4⟩ := ends y1 y2 hb.symm x1 (fun m => (e m).symm) b h1
        rw [hx] at h3
        cases h3
        rw [h1, Int.le_antisymm h2 h4]
    have hxy : x = y := Prod.ext hb he
    subst hxy
    have rest : ∀ m, hasS ss m = hasS ts m := fun m => by
      have em := e m
      cases q : inS x m with
      | false =>
        unfold hasS at em ⊢
        rw [List.any_cons, List.any_cons, q, Bool.false_or, Bool.false_or] at em
        exact em
      | true =>
        obtain ⟨q1, q2⟩ := inS_iff.mp q
        have none : ∀ {ss : List St}, (∀ z ∈ ss, apart x z) → hasS ss m = false := fun {ss} h => by
          cases c : hasS ss m with
          | false => rfl
          | true =>
            obtain ⟨z, hz, z1, z2⟩ := hasS_iff.mp c
            obtain ⟨e', h1, h2⟩ := h z hz
            have := q2 e' h1
            omega
        rw [none x2, none y2]
    rw [can_uniq x3 y3 rest]
def later : Option Int → Option Int → Option Int
  | some a, some b => some (if a < b then b else a)
  | _, _ => none
/-- an end reaches a begin -/
def reach : Option Int → Int → Bool
  | none, _ => true
  | some x, b => decide (b ≤ x)
/-- one stretch more, that begins not ahead of the last one -/
def mgStep (acc : List St) (s : St) : List St := match acc.getLast? with
  | none => [s]
  | some l => if reach l.2 s.1 = true then acc.dropLast ++ [(l.1, later l.2 s.2)] else acc ++ [s]
theorem can_snoc {acc : List St} {l s : St} (h : Can (acc ++ [l])) (h0 : l.1 = s.1) (hs : okS s) : Can (acc ++ [s]) := by
  obtain ⟨h1, _, h3⟩ := List.pairwise_append.mp h.ap
  refine ⟨fun z hz => ?_, List.pairwise_append.mpr ⟨h1, by simp, fun z hz y hy => ?_⟩⟩
  · rcases List.mem_append.mp hz with hz | hz
    · exact h.ok z (by simp [hz])
    · have : z = s := by simpa using hz
      rw [this]
      exact hs
  · have : y = s := by simpa using hy
    rw [this]
    obtain ⟨e, e1, e2⟩ := h3 z hz l (by simp)
    exact ⟨e, e1, by omega⟩
theorem can_more {acc : List St} {l s : St} {x : Int} (h : Can (acc ++ [l])) (hl : l.2 = some x) (hx : x < s.1) (hs : okS s) : Can (acc ++ [l] ++ [s]) := by
  obtain ⟨h1, h2, h3⟩ := List.pairwise_append.mp h.ap
  refine ⟨fun z hz => ?_, List.pairwise_append.mpr ⟨h.ap, by simp, fun z hz y hy => ?_⟩⟩
  · rcases List.mem_append.mp hz with hz | hz
    · exact h.ok z hz
    · have : z = s := by simpa using hz
      rw [this]
      exact hs
  · have : y = s := by simpa using hy
    rw [this]
    rcases List.mem_append.mp hz with hz | hz
    · obtain ⟨e, e1, e2⟩ := h3 z hz l (by simp)
      have := (h.ok l (by simp)).2 x hl
      exact ⟨e, e1, by omega⟩
    · have : z = l := by simpa using hz
      rw [this]
      exact ⟨x, hl, hx⟩
theorem mg_step {acc : List St} {s : St} (h : Can acc) (hs : okS s) (hb : ∀ x ∈ acc, x.1 ≤ s.1) : Can (mgStep acc s) ∧ (∀ m, hasS (mgStep acc s) m = true ↔ hasS acc m = true ∨ inS s m = true) ∧ ∀ x ∈ mgStep acc s, x.1 ≤ s.1 := by
  unfold mgStep
  cases q : acc.getLast? with
  | none =>
    obtain rfl := List.getLast?_eq_none_iff.mp q
    refine ⟨⟨fun z hz => ?_, by simp⟩, fun m => by simp [hasS], fun x hx => ?_⟩
    · have : z = s := by simpa using hz
      rw [this]
      exact hs
    · have : x = s := by simpa using hx
      rw [this]
      exact Int.le_refl _
  | some l =>
    obtain ⟨pre, rfl⟩ := List.getLast?_eq_some_iff.mp q
    have hlb := hb l (by simp)
    have hlo := h.ok l (by simp)
    have joined : (∀ x, l.2 = some x → s.1 ≤ x) → Can (pre ++ [(l.1, later l.2 s.2)]) ∧ (∀ m, hasS (pre ++ [(l.1, later l.2 s.2)]) m = true ↔ hasS (pre ++ [l]) m = true ∨ inS s m = true) ∧ ∀ x ∈ pre ++ [(l.1, later l.2 s.2)], x.1 ≤ s.1 := by
      intro hx
      refine ⟨can_snoc h rfl ⟨hlo.1, fun e he => ?_⟩, fun m => ?_, fun x hx2 => ?_⟩
      · cases h1 : l.2 with
        | none => rw [h1] at he; cases he
        | some a =>
          cases h2 : s.2 with
          | none => rw [h1, h2] at he; cases he
          | some b =>
            rw [h1, h2] at he
            have he' : (if a < b then b else a) = e := Option.some.inj he
            have := hlo.2 a h1
            show l.1 < e
            split at he' <;> omega
      · have e1 : ∀ z : St, hasS (pre ++ [z]) m = (hasS pre m || inS z m) := fun z => by simp [hasS]
        rw [e1, e1, Bool.or_eq_true, Bool.or_eq_true, or_assoc]
        refine or_congr Iff.rfl ?_
        rw [inS_iff, inS_iff, inS_iff]
        cases h1 : l.2 with
        | none =>
          have : later none s.2 = none := by cases s.2 <;> rfl
          simp only [this]
          constructor
          · intro hh
            exact .inl ⟨hh.1, fun e he => by cases he⟩
          · rintro (hh | hh)
            · exact ⟨hh.1, fun e he => by cases he⟩
            · exact ⟨by have := hh.1; show l.1 ≤ m; omega, fun e he => by cases he⟩
        | some a =>
          have ha := hx a h1
          cases h2 : s.2 with
          | none =>
            simp only [later]
            constructor
            · intro hh
              by_cases c : m < a
              · exact .inl ⟨hh.1, fun e he => by cases he; exact c⟩
              · exact .inr ⟨by omega, fun e he => by cases he⟩
            · rintro (hh | hh)
              · exact ⟨hh.1, fun e he => by cases he⟩
              · exact ⟨by have := hh.1; show l.1 ≤ m; omega, fun e he => by cases he⟩
          | some b =>
            have hb2 := hs.2 b h2
            simp only [later]
            constructor
            · intro hh
              have hm := hh.2 _ rfl
              by_cases c : m < a
              · exact .inl ⟨hh.1, fun e he => by cases he; exact c⟩
              · refine .inr ⟨by omega, fun e he => ?_⟩
                cases he
                split at hm <;> omega
            · rintro (hh | hh)
              · have := hh.2 a rfl
                refine ⟨hh.1, fun e he => ?_⟩
                have he' := Option.some.inj he
                split at he' <;> omega
              · have := hh.2 b rfl
                refine ⟨by have := hh.1; show l.1 ≤ m; omega, fun e he => ?_⟩
                have he' := Option.some.inj he
                split at he' <;> omega
      · rcases List.mem_append.mp hx2 with hx2 | hx2
        · exact hb x (by simp [hx2])
        · have : x = (l.1, later l.2 s.2) := by simpa using hx2
          rw [this]
          exact hlb
    simp only [List.dropLast_concat]
    split
    · next c =>
      exact joined fun y hy => by
        rw [hy] at c
        simpa [reach] using c
    · next c =>
      cases h1 : l.2 with
      | none => rw [h1] at c; exact absurd rfl c
      | some x =>
        have c2 : ¬ s.1 ≤ x := fun z => c (by rw [h1]; simpa [reach] using z)
        refine ⟨can_more h h1 (by omega) hs, fun m => by simp [hasS, or_assoc], fun y hy => ?_⟩
        rcases List.mem_append.mp hy with hy | hy
        · exact hb y hy
        · have : y = s := by simpa using hy
          rw [this]
          exact Int.le_refl _
/-! ### from turns -/
def spStep (acc : List St) (t : Int) (e : Option Int) : List St := match acc.getLast? with
  | none => [(t, e)]
  | some l => if l.2 = some t then acc.dropLast ++ [(l.1, e)] else acc ++ [(t, e)]
/-- one turn: the moments from t up to e -/
theorem sp_step {acc : List St} {t : Int} {e : Option Int} (h : Can acc) (h0 : 0 ≤ t) (he : ∀ x, e = some x → t < x) (hb : ∀ x ∈ acc, ∃ y, x.2 = some y ∧ y ≤ t) : Can (spStep acc t e) ∧ (∀ m, hasS (spStep acc t e) m = true ↔ hasS acc m = true ∨ inS (t, e) m = true) ∧
    ∀ u, e = some u → ∀ x ∈ spStep acc t e, ∃ y, x.2 = some y ∧ y ≤ u := by
  have ok : okS (t, e) := ⟨h0, he⟩
  unfold spStep
  cases q : acc.getLast? with
  | none =>
    obtain rfl := List.getLast?_eq_none_iff.mp q
    refine ⟨⟨fun z hz => ?_, by simp⟩, fun m => by simp [hasS], fun u hu x hx => ?_⟩
    · have : z = (t, e) := by simpa using hz
      rw [this]
      exact ok
    · have : x = (t, e) := by simpa using hx
      rw [this]
      exact ⟨u, hu, Int.le_refl _⟩
  | some l =>
    obtain ⟨pre, rfl⟩ := List.getLast?_eq_some_iff.mp q
    have hlo := h.ok l (by simp)
    simp only [List.dropLast_concat]
    split
    · next c =>
      have hlt := hlo.2 t c
      refine ⟨can_snoc h rfl ⟨hlo.1, fun x hx => by have := he x hx; show l.1 < x; omega⟩, fun m => ?_, fun u hu x hx => ?_⟩
      · have e1 : ∀ z : St, hasS (pre ++ [z]) m = (hasS pre m || inS z m) := fun z => by simp [hasS]
        rw [e1, e1, Bool.or_eq_true, Bool.or_eq_true, or_assoc]
        refine or_congr Iff.rfl ?_
        rw [inS_iff, inS_iff, inS_iff]
        constructor
        · intro hh
          by_cases c2 : m < t
          · exact .inl ⟨hh.1, fun x hx => by rw [c] at hx; cases hx; exact c2⟩
          · exact .inr ⟨by show t ≤ m; omega, hh.2⟩
        · rintro (hh | hh)
          · have := hh.2 t c
            exact ⟨hh.1, fun x hx => by have := he x hx; omega⟩
          · exact ⟨by have := hh.1; show l.1 ≤ m; simp only at this; omega, hh.2⟩
      · rcases List.mem_append.mp hx with hx | hx
        · obtain ⟨y, h1, h2⟩ := hb x (by simp [hx])
          have := he u hu
          exact ⟨y, h1, by omega⟩
        · have : x = (l.1, e) := by simpa using hx
          rw [this]
          exact ⟨u, hu, Int.le_refl _⟩
    · next c =>
      obtain ⟨y, h1, h2⟩ := hb l (by simp)
      have hne : y ≠ t := fun z => c (by rw [h1, z])
      refine ⟨can_more (s := (t, e)) h h1 (by show y < t; omega) ok, fun m => by simp [hasS, or_assoc], fun u hu x hx => ?_⟩
      rcases List.mem_append.mp hx with hx | hx
      · obtain ⟨z, k1, k2⟩ := hb x hx
        have := he u hu
        exact ⟨z, k1, by omega⟩
      · have : x = (t, e) := by simpa using hx
        rw [this]
        exact ⟨u, hu, Int.le_refl _⟩
/-- all turns -/
def spb : List St → List Int → List Bool → List St
  | acc, t :: ts, f :: fs => spb (if f = true then spStep acc t ts.head? else acc) ts fs
  | acc, _, _ => acc
/-- between two turns nothing changes -/
structure Turns (ss : List St) (ts : List Int) : Prop where
  asc : ts.Pairwise (· < ·)
  bg : ∀ s ∈ ss, s.1 ∈ ts
  en : ∀ s ∈ ss, ∀ e, s.2 = some e → e ∈ ts
theorem turn_same {ss : List St} {dn : List Int} {t : Int} {ts : List Int} (T : Turns ss (dn ++ t :: ts)) {m : Int} (h1 : t ≤ m) (h2 : ∀ u, ts.head? = some u → m < u) : hasS ss m = hasS ss t := by
  obtain ⟨a1, a2, a3⟩ := List.pairwise_append.mp T.asc
  obtain ⟨a4, a5⟩ := List.pairwise_cons.mp a2
  have side : ∀ u ∈ dn ++ t :: ts, (u ≤ m ↔ u ≤ t) := fun u hu => by
    rcases List.mem_append.mp hu with hu | hu
    · have := a3 u hu t (by simp)
      constructor <;> intro <;> omega
    · rcases List.mem_cons.mp hu with rfl | hu
      · constructor <;> intro <;> omega
      · have k1 := a4 u hu
        cases ts with
        | nil => cases hu
        | cons v vs =>
          have k2 := h2 v rfl
          have k3 : v ≤ u := by
            rcases List.mem_cons.mp hu with rfl | hu
            · exact Int.le_refl _
            · exact Int.le_of_lt ((List.pairwise_cons.mp a5).1 u hu)
          constructor <;> intro <;> omega
  refine hasS_ext ?_
  rw [hasS_iff, hasS_iff]
  constructor
  · rintro ⟨s, hs, k1, k2⟩
    refine ⟨s, hs, (side _ (T.bg s hs)).mp k1, fun e he => ?_⟩
    have := k2 e he
    have := side e (T.en s hs e he)
    omega
  · rintro ⟨s, hs, k1, k2⟩
    refine ⟨s, hs, (side _ (T.bg s hs)).mpr k1, fun e he => ?_⟩
    have := k2 e he
    have := side e (T.en s hs e he)
    omega
theorem spb_ok {ss : List St} (h0 : ∀ s ∈ ss, 0 ≤ s.1) : ∀ {ts dn : List Int} {acc : List St}, Turns ss (dn ++ ts) → (∀ t ∈ ts, 0 ≤ t) → Can acc → (∀ t, ts.head? = some t → (∀ x ∈ acc, ∃ y, x.2 = some y ∧ y ≤ t) ∧ ∀ m, hasS acc m = true ↔ hasS ss m = true ∧ m < t) → (ts = [] → ∀ m, hasS acc m = hasS ss m) →
    Can (spb acc ts (ts.map (hasS ss))) ∧ ∀ m, hasS (spb acc ts (ts.map (hasS ss))) m = hasS ss m
  | [], dn, acc, T, _, hc, _, hn => ⟨hc, hn rfl⟩
  | t :: ts, dn, acc, T, hp, hc, hh, _ => by
    obtain ⟨hb, hm⟩ := hh t rfl
    have T2 : Turns ss ((dn ++ [t]) ++ ts) := by simpa using T
    obtain ⟨_, a2, _⟩ := List.pairwise_append.mp T.asc
    have a4 := (List.pairwise_cons.mp a2).1
    have next : ∀ x, ts.head? = some x → t < x := fun x hx => a4 x (List.mem_of_head? hx)
    show Can (spb (if hasS ss t = true then spStep acc t ts.head? else acc) ts (ts.map (hasS ss))) ∧ ∀ m, hasS (spb (if hasS ss t = true then spStep acc t ts.head? else acc) ts (ts.map (hasS ss))) m = hasS ss m
    obtain ⟨s1, s2, s3⟩ := sp_step (e := ts.head?) hc (hp t (by simp)) next hb
    -- what is had up to the next turn
    have upto : ∀ m, (∀ u, ts.head? = some u → m < u) → (hasS (if hasS ss t = true then spStep acc t ts.head? else acc) m = true ↔ hasS ss m = true) := fun m hu => by
      by_cases c : m < t
      · have e1 : inS (t, ts.head?) m = false := by
          cases q : inS (t, ts.head?) m with
          | false => rfl
          | true =>
            have := (inS_iff.mp q).1
            simp only at this
            omega
        split
        · rw [s2, hm, e1]
          simp [c]
        · rw [hm]
          simp [c]
      · have e1 : inS (t, ts.head?) m = true := inS_iff.mpr ⟨by show t ≤ m; omega, hu⟩
        have e2 := turn_same T (m := m) (by omega) hu
        split
        · next f => rw [s2, e1, e2, f]; simp
        · next f =>
          rw [hm, e2]
          simp [f]
    have beyond : ∀ u, ts.head? = some u → ∀ m, hasS (if hasS ss t = true then spStep acc t ts.head? else acc) m = true → m < u := fun u hu m h => by
      have := next u hu
      split at h
      · rw [s2] at h
        rcases h with h | h
        · have := ((hm m).mp h).2
          omega
        · exact (inS_iff.mp h).2 u hu
      · have := ((hm m).mp h).2
        omega
    refine spb_ok h0 (dn := dn ++ [t]) T2 (fun x hx => hp x (by simp [hx])) ?_ (fun u hu => ⟨fun x hx => ?_, fun m => ?_⟩) (fun hn m => ?_)
    · split
      · exact s1
      · exact hc
    · split at hx
      · exact s3 u hu x hx
      · obtain ⟨y, h1, h2⟩ := hb x hx
        have := next u hu
        exact ⟨y, h1, by omega⟩
    · constructor
      · intro h
        have k := beyond u hu m h
        exact ⟨(upto m fun v hv => by rw [hu] at hv; cases hv; exact k).mp h, k⟩
      · rintro ⟨h, k⟩
        exact (upto m fun v hv => by rw [hu] at hv; cases hv; exact k).mpr h
    · exact hasS_ext (upto m fun v hv => by rw [hn] at hv; cases hv)
theorem cover_ok {ss : List St} {ts : List Int} (h : ∀ s ∈ ss, okS s) (T : Turns ss ts) (hp : ∀ t ∈ ts, 0 ≤ t) (hz : 0 ∈ ts) : Can (spb [] ts (ts.map (hasS ss))) ∧ ∀ m, hasS (spb [] ts (ts.map (hasS ss))) m = hasS ss m := by
  refine spb_ok (fun s hs => (h s hs).1) (dn := []) T hp ⟨by simp, by simp⟩ (fun t ht => ⟨by simp, fun m => ?_⟩) (fun e => by rw [e] at hz; cases hz)
  have t0 : t = 0 := by
    have k1 := hp t (List.mem_of_head? ht)
    cases ts with
    | nil => cases ht
    | cons v vs =>
      cases ht
      rcases List.mem_cons.mp hz with e | e
      · exact e.symm
      · have := (List.pairwise_cons.mp T.asc).1 0 e
        omega
  subst t0
  constructor
  · intro h
    simp [hasS] at h
  · rintro ⟨h1, h2⟩
    obtain ⟨s, hs, k1, _⟩ := hasS_iff.mp h1
    have := (h s hs).1
    omega

theorem rangeD_cons (k n : Nat) : rangeD (k : Int) (n + 1) = .int k :: rangeD ((k + 1 : Nat) : Int) n := by
  simp [rangeD, List.range_succ_eq_map, Function.comp_def]
  intro a _
  omega
theorem at_st {ss : List St} {k : Nat} (h : k < ss.length) : atI (ss.map stD) ((k : Nat) : Int) = some (stD ss[k]) := by
  rw [atI_n, List.getElem?_map, List.getElem?_eq_getElem h]
  rfl
theorem can_push {acc : List St} {s : St} (h : Can acc) (hb : ∀ x ∈ acc, ∃ e, x.2 = some e ∧ e < s.1) (hs : okS s) : Can (acc ++ [s]) := by
  refine ⟨fun z hz => ?_, List.pairwise_append.mpr ⟨h.ap, by simp, fun z hz y hy => ?_⟩⟩
  · rcases List.mem_append.mp hz with hz | hz
    · exact h.ok z hz
    · have : z = s := by simpa using hz
      rw [this]
      exact hs
  · have : y = s := by simpa using hy
    rw [this]
    exact hb z hz
/-! ### sets of moments that change at some turns only -/
structure TurnsF (f : Int → Bool) (ts : List Int) : Prop where
  asc : ts.Pairwise (· < ·)
  same : ∀ (dn : List Int) (t : Int) (rest : List Int), ts = dn ++ t :: rest → ∀ m, t ≤ m → (∀ u, rest.head? = some u → m < u) → f m = f t
theorem spbF {f : Int → Bool} : ∀ {ts dn : List Int} {acc : List St}, TurnsF f (dn ++ ts) → (∀ t ∈ ts, 0 ≤ t) → Can acc → (∀ t, ts.head? = some t → (∀ x ∈ acc, ∃ y, x.2 = some y ∧ y ≤ t) ∧ ∀ m, hasS acc m = true ↔ (0 ≤ m ∧ f m = true) ∧ m < t) →
    (ts = [] → ∀ m, hasS acc m = true ↔ 0 ≤ m ∧ f m = true) → Can (spb acc ts (ts.map f)) ∧ ∀ m, hasS (spb acc ts (ts.map f)) m = true ↔ 0 ≤ m ∧ f m = true
  | [], dn, acc, T, _, hc, _, hn => ⟨hc, hn rfl⟩
  | t :: ts, dn, acc, T, hp, hc, hh, _ => by
    obtain ⟨hb, hm⟩ := hh t rfl
    have T2 : TurnsF f ((dn ++ [t]) ++ ts) := by simpa using T
    obtain ⟨_, a2, _⟩ := List.pairwise_append.mp T.asc
    have a4 := (List.pairwise_cons.mp a2).1
    have next : ∀ x, ts.head? = some x → t < x := fun x hx => a4 x (List.mem_of_head? hx)
    have t0 := hp t (by simp)
    show Can (spb (if f t = true then spStep acc t ts.head? else acc) ts (ts.map f)) ∧ ∀ m, hasS (spb (if f t = true then spStep acc t ts.head? else acc) ts (ts.map f)) m = true ↔ 0 ≤ m ∧ f m = true
    obtain ⟨s1, s2, s3⟩ := sp_step (e := ts.head?) hc t0 next hb
    have upto : ∀ m, (∀ u, ts.head? = some u → m < u) → (hasS (if f t = true then spStep acc t ts.head? else acc) m = true ↔ 0 ≤ m ∧ f m = true) := fun m hu => by
      by_cases c : m < t
      · have e1 : inS (t, ts.head?) m = false := by
          cases q : inS (t, ts.head?) m with
          | false => rfl
          | true =>
            have := (inS_iff.mp q).1
            simp only at this
            omega
        split
        · rw [s2, hm, e1]
          simp [c]
        · rw [hm]
          simp [c]
      · have e1 : inS (t, ts.head?) m = true := inS_iff.mpr ⟨by show t ≤ m; omega, hu⟩
        have e2 := T.same dn t ts rfl m (by omega) hu
        have m0 : 0 ≤ m := by omega
        split
        · next g => rw [s2, e1, e2, g]; simp [m0]
        · next g =>
          rw [hm, e2]
          simp [g]
    have beyond : ∀ u, ts.head? = some u → ∀ m, hasS (if f t = true then spStep acc t ts.head? else acc) m = true → m < u := fun u hu m h => by
      have := next u hu
      split at h
      · rw [s2] at h
        rcases h with h | h
        · have := ((hm m).mp h).2
          omega
        · exact (inS_iff.mp h).2 u hu
      · have := ((hm m).mp h).2
        omega
    refine spbF (dn := dn ++ [t]) T2 (fun x hx => hp x (by simp [hx])) ?_ (fun u hu => ⟨fun x hx => ?_, fun m => ?_⟩) (fun hn m => upto m fun v hv => by rw [hn] at hv; cases hv)
    · split
      · exact s1
      · exact hc
    · split at hx
      · exact s3 u hu x hx
      · obtain ⟨y, h1, h2⟩ := hb x hx
        have := next u hu
        exact ⟨y, h1, by omega⟩
    · constructor
      · intro h
        have k := beyond u hu m h
        exact ⟨(upto m fun v hv => by rw [hu] at hv; cases hv; exact k).mp h, k⟩
      · rintro ⟨h, k⟩
        exact (upto m fun v hv => by rw [hu] at hv; cases hv; exact k).mpr h
theorem coverF {f : Int → Bool} {ts : List Int} (T : TurnsF f ts) (hp : ∀ t ∈ ts, 0 ≤ t) (hz : 0 ∈ ts) : Can (spb [] ts (ts.map f)) ∧ ∀ m, hasS (spb [] ts (ts.map f)) m = true ↔ 0 ≤ m ∧ f m = true := by
  refine spbF (dn := []) T hp ⟨by simp, by simp⟩ (fun t ht => ⟨by simp, fun m => ?_⟩) (fun e => by rw [e] at hz; cases hz)
  have t0 : t = 0 := by
    have k1 := hp t (List.mem_of_head? ht)
    cases ts with
    | nil => cases ht
    | cons v vs =>
      cases ht
      rcases List.mem_cons.mp hz with e | e
      · exact e.symm
      · have := (List.pairwise_cons.mp T.asc).1 0 e
        omega
  subst t0
  constructor
  · intro h
    simp [hasS] at h
  · rintro ⟨⟨h1, _⟩, h2⟩
    omega
/-- f changes at the moments of C alone -/
def CutBy (f : Int → Bool) (C : Int → Prop) : Prop := ∀ m m', 0 ≤ m → m ≤ m' → (∀ c, C c → 0 < c → ¬ (m < c ∧ c ≤ m')) → f m = f m'
theorem turnsF_of {f : Int → Bool} {C : Int → Prop} {ts : List Int} (hc : CutBy f C) (asc : ts.Pairwise (· < ·)) (hp : ∀ t ∈ ts, 0 ≤ t) (h : ∀ c, C c → 0 < c → c ∈ ts) : TurnsF f ts := by
  refine ⟨asc, fun dn t rest e m h1 h2 => ?_⟩
  subst e
  obtain ⟨a1, a2, a3⟩ := List.pairwise_append.mp asc
  obtain ⟨a4, a5⟩ := List.pairwise_cons.mp a2
  refine (hc t m (hp t (by simp)) h1 fun c hC c0 ⟨k1, k2⟩ => ?_).symm
  rcases List.mem_append.mp (h c hC c0) with hm | hm
  · have := a3 c hm t (by simp)
    omega
  · rcases List.mem_cons.mp hm with rfl | hm
    · omega
    · cases rest with
      | nil => cases hm
      | cons v vs =>
        have := h2 v rfl
        rcases List.mem_cons.mp hm with rfl | hm
        · omega
        · have := (List.pairwise_cons.mp a5).1 c hm
          omega
theorem any_same {α : Type} {l : List α} {p q : α → Bool} (h : ∀ x ∈ l, p x = q x) : l.any p = l.any q := by
  induction l with
  | nil => rfl
  | cons x l ih => rw [List.any_cons, List.any_cons, h x (by simp), ih fun y hy => h y (by simp [hy])]

/-! ### what the package makes -/
def shiftS (n : Int) (s : St) : Option St := match s.2 with
  | none => some (if s.1 + n > 0 then s.1 + n else 0, none)
  | some e => if 0 < e + n then some (if s.1 + n > 0 then s.1 + n else 0, some (e + n)) else none
theorem shift_val {n : Int} {s t : St} (h : shiftS n s = some t) : t.1 = (if s.1 + n > 0 then s.1 + n else 0) ∧ t.2 = s.2.map (· + n) := by
  unfold shiftS at h
  cases q : s.2 with
  | none =>
    rw [q] at h
    cases h
    exact ⟨rfl, rfl⟩
  | some e =>
    rw [q] at h
    simp only at h
    split at h
    · cases h
      exact ⟨rfl, rfl⟩
    · cases h
theorem shift_some {n : Int} {s t : St} (h : shiftS n s = some t) : ∀ e, s.2 = some e → 0 < e + n := fun e q => by
  unfold shiftS at h
  rw [q] at h
  simp only at h
  split at h
  · next c => exact c
  · cases h
theorem shift_can {n : Int} {ss : List St} (h : Can ss) : Can (ss.filterMap (shiftS n)) ∧ ∀ m, hasS (ss.filterMap (shiftS n)) m = true ↔ 0 ≤ m ∧ hasS ss (m - n) = true := by
  refine ⟨⟨fun t ht => ?_, ?_⟩, fun m => ?_⟩
  · obtain ⟨s, hs, e⟩ := List.mem_filterMap.mp ht
    obtain ⟨v1, v2⟩ := shift_val e
    have v3 := shift_some e
    have ok := h.ok s hs
    refine ⟨by rw [v1]; split <;> omega, fun x hx => ?_⟩
    rw [v2] at hx
    cases q : s.2 with
    | none => rw [q] at hx; cases hx
    | some y =>
      rw [q] at hx
      have hx' : y + n = x := Option.some.inj hx
      have k1 := ok.2 y q
      have k2 := v3 y q
      rw [v1]
      split <;> omega
  · refine List.Pairwise.filterMap (S := apart) (shiftS n) (fun x y ⟨e, e1, e2⟩ x' hx y' hy => ?_) h.ap
    obtain ⟨_, v2⟩ := shift_val hx
    obtain ⟨w1, _⟩ := shift_val hy
    have v3 := shift_some hx e e1
    refine ⟨e + n, by rw [v2, e1]; rfl, ?_⟩
    rw [w1]
    split <;> omega
  · rw [hasS_iff, hasS_iff]
    constructor
    · rintro ⟨t, ht, k1, k2⟩
      obtain ⟨s, hs, e⟩ := List.mem_filterMap.mp ht
      obtain ⟨v1, v2⟩ := shift_val e
      rw [v1] at k1
      refine ⟨by split at k1 <;> omega, s, hs, by split at k1 <;> omega, fun x hx => ?_⟩
      have := k2 (x + n) (by rw [v2, hx]; rfl)
      omega
    · rintro ⟨m0, s, hs, k1, k2⟩
      cases q : s.2 with
      | none =>
        refine ⟨(if s.1 + n > 0 then s.1 + n else 0, none), List.mem_filterMap.mpr ⟨s, hs, by unfold shiftS; rw [q]⟩, ?_, fun e he => by cases he⟩
        show (if s.1 + n > 0 then s.1 + n else 0) ≤ m
        split <;> omega
      | some e =>
        have := k2 e q
        refine ⟨(if s.1 + n > 0 then s.1 + n else 0, some (e + n)), List.mem_filterMap.mpr ⟨s, hs, by unfold shiftS; rw [q]; exact if_pos (by omega)⟩, ?_, fun x he => by cases he; omega⟩
        show (if s.1 + n > 0 then s.1 + n else 0) ≤ m
        split <;> omega
/-! ### the rest -/
structure RestI (dn acc : List St) (b : Int) : Prop where
  can : Can acc
  bnd : ∀ x ∈ acc, ∃ e, x.2 = some e ∧ e < b
  nn : 0 ≤ b
  has : ∀ m, hasS acc m = true ↔ (0 ≤ m ∧ m < b) ∧ hasS dn m = false
  dnb : ∀ m, hasS dn m = true → m < b
def restMid (acc : List St) (b : Int) (s : St) : List St := if b < s.1 then acc ++ [(b, some s.1)] else acc
theorem hasS_app (a b : List St) (m : Int) : hasS (a ++ b) m = (hasS a m || hasS b m) := by
  unfold hasS
  rw [List.any_append]
theorem hasS_one (s : St) (m : Int) : hasS [s] m = inS s m := by
  simp [hasS]
theorem inS_false {s : St} {m : Int} (h : ¬ (s.1 ≤ m ∧ ∀ e, s.2 = some e → m < e)) : inS s m = false := by
  cases q : inS s m with
  | false => rfl
  | true => exact absurd (inS_iff.mp q) h
theorem rest_mid {dn acc : List St} {b : Int} {s : St} (I : RestI dn acc b) (hs : okS s) (hb : b ≤ s.1) : Can (restMid acc b s) ∧ (∀ x ∈ restMid acc b s, ∃ e, x.2 = some e ∧ e ≤ s.1) ∧ ∀ m, hasS (restMid acc b s) m = true ↔ (0 ≤ m ∧ m < s.1) ∧ hasS dn m = false := by
  have nn := I.nn
  unfold restMid
  split
  · next c =>
    refine ⟨can_push I.can I.bnd ⟨I.nn, fun e he => by cases he; exact c⟩, fun x hx => ?_, fun m => ?_⟩
    · rcases List.mem_append.mp hx with hx | hx
      · obtain ⟨e, e1, e2⟩ := I.bnd x hx
        exact ⟨e, e1, by omega⟩
      · have : x = (b, some s.1) := by simpa using hx
        rw [this]
        exact ⟨_, rfl, Int.le_refl _⟩
    · rw [hasS_app, Bool.or_eq_true, I.has, hasS_one, inS_iff]
      constructor
      · rintro (⟨⟨k1, k2⟩, k3⟩ | ⟨k1, k2⟩)
        · exact ⟨⟨k1, by omega⟩, k3⟩
        · have := k2 s.1 rfl
          simp only at k1
          refine ⟨⟨by omega, this⟩, ?_⟩
          cases q : hasS dn m with
          | false => rfl
          | true =>
            have := I.dnb m q
            omega
      · rintro ⟨⟨k1, k2⟩, k3⟩
        by_cases c2 : m < b
        · exact .inl ⟨⟨k1, c2⟩, k3⟩
        · exact .inr ⟨by show b ≤ m; omega, fun e he => by cases he; exact k2⟩
  · next c =>
    have e : s.1 = b := by omega
    rw [e]
    refine ⟨I.can, fun x hx => ?_, I.has⟩
    obtain ⟨e, e1, e2⟩ := I.bnd x hx
    exact ⟨e, e1, by omega⟩
theorem rest_none {dn acc : List St} {b : Int} {s : St} (I : RestI dn acc b) (hs : okS s) (hb : b ≤ s.1) (q : s.2 = none) : Can (restMid acc b s) ∧ ∀ m, hasS (restMid acc b s) m = true ↔ 0 ≤ m ∧ hasS (dn ++ [s]) m = false := by
  obtain ⟨c1, _, c3⟩ := rest_mid I hs hb
  refine ⟨c1, fun m => ?_⟩
  rw [c3, hasS_app, hasS_one]
  by_cases c : m < s.1
  · rw [inS_false (fun k => by omega), Bool.or_false]
    exact ⟨fun k => ⟨k.1.1, k.2⟩, fun k => ⟨⟨k.1, c⟩, k.2⟩⟩
  · rw [inS_iff.mpr ⟨by omega, fun e he => by rw [q] at he; cases he⟩, Bool.or_true]
    exact ⟨fun k => absurd k.1.2 c, fun k => by cases k.2⟩
theorem rest_some {dn acc : List St} {b e : Int} {s : St} (I : RestI dn acc b) (hs : okS s) (hb : b ≤ s.1) (q : s.2 = some e) : RestI (dn ++ [s]) (restMid acc b s) e := by
  obtain ⟨c1, c2, c3⟩ := rest_mid I hs hb
  have h0 := hs.1
  have h1 := hs.2 e q
  refine ⟨c1, fun x hx => ?_, by omega, fun m => ?_, fun m hm => ?_⟩
  · obtain ⟨y, y1, y2⟩ := c2 x hx
    exact ⟨y, y1, by omega⟩
  · rw [c3, hasS_app, hasS_one]
    by_cases c : m < s.1
    · rw [inS_false (fun k => by omega), Bool.or_false]
      exact ⟨fun k => ⟨⟨k.1.1, by omega⟩, k.2⟩, fun k => ⟨⟨k.1.1, c⟩, k.2⟩⟩
    · constructor
      · exact fun k => absurd k.1.2 c
      · rintro ⟨⟨k1, k2⟩, k3⟩
        rw [inS_iff.mpr ⟨by omega, fun x hx => by rw [q] at hx; cases hx; exact k2⟩, Bool.or_true] at k3
        cases k3
  · rw [hasS_app, hasS_one, Bool.or_eq_true] at hm
    rcases hm with hm | hm
    · have := I.dnb m hm
      omega
    · exact (inS_iff.mp hm).2 e q
theorem rest_end {ss acc : List St} {b : Int} (I : RestI ss acc b) : Can (acc ++ [(b, none)]) ∧ ∀ m, hasS (acc ++ [(b, none)]) m = true ↔ 0 ≤ m ∧ hasS ss m = false := by
  have nn := I.nn
  refine ⟨can_push I.can I.bnd ⟨I.nn, fun e he => by cases he⟩, fun m => ?_⟩
  rw [hasS_app, Bool.or_eq_true, I.has, hasS_one, inS_iff]
  constructor
  · rintro (⟨k1, k3⟩ | ⟨k1, _⟩)
    · exact ⟨k1.1, k3⟩
    · simp only at k1
      refine ⟨by omega, ?_⟩
      cases q : hasS ss m with
      | false => rfl
      | true =>
        have := I.dnb m q
        omega
  · rintro ⟨k1, k3⟩
    by_cases c : m < b
    · exact .inl ⟨⟨k1, c⟩, k3⟩
    · exact .inr ⟨by show b ≤ m; omega, fun e he => by cases he⟩
theorem rest_nil : RestI [] [] 0 := ⟨⟨by simp, by simp⟩, by simp, Int.le_refl _, fun m => by simp [hasS], fun m h => by simp [hasS] at h⟩
theorem has_nn {ss : List St} (h : Can ss) {m : Int} (k : hasS ss m = true) : 0 ≤ m := by
  obtain ⟨s, hs, k1, _⟩ := hasS_iff.mp k
  have := (h.ok s hs).1
  omega

/-! ### what both have -/
def minE : Option Int → Option Int → Option Int
  | none, y => y
  | x, none => x
  | some x, some y => some (if y < x then y else x)
def mx (x y : Int) : Int := if y > x then y else x
def ltE (x : Int) : Option Int → Prop
  | none => True
  | some e => x < e
def ltEb (x : Int) : Option Int → Bool
  | none => true
  | some e => decide (x < e)
theorem ltEb_iff {x : Int} {e : Option Int} : ltEb x e = true ↔ ltE x e := by
  cases e with
  | none => simp [ltEb, ltE]
  | some e => simp [ltEb, ltE]
theorem ltE_all {x : Int} {e : Option Int} : ltE x e ↔ ∀ y, e = some y → x < y := by
  cases e with
  | none => simp [ltE]
  | some e => simp [ltE]
theorem ltE_min {x : Int} {a b : Option Int} : ltE x (minE a b) ↔ ltE x a ∧ ltE x b := by
  cases a with
  | none => cases b <;> simp [minE, ltE]
  | some a =>
    cases b with
    | none => simp [minE, ltE]
    | some b =>
      simp only [minE, ltE]
      split <;> omega
theorem mx_le {x y m : Int} : mx x y ≤ m ↔ x ≤ m ∧ y ≤ m := by
  unfold mx
  split <;> omega
theorem piece_has (s t : St) (m : Int) : inS (mx s.1 t.1, minE s.2 t.2) m = true ↔ inS s m = true ∧ inS t m = true := by
  rw [inS_iff, inS_iff, inS_iff]
  simp only
  rw [← ltE_all, ← ltE_all, ← ltE_all, ltE_min, mx_le]
  constructor
  · rintro ⟨⟨a, b⟩, c, d⟩
    exact ⟨⟨a, c⟩, b, d⟩
  · rintro ⟨⟨a, c⟩, b, d⟩
    exact ⟨⟨a, b⟩, c, d⟩
def metStep (acc : List St) (s t : St) : List St := if ltEb (mx s.1 t.1) (minE s.2 t.2) = true then acc ++ [(mx s.1 t.1, minE s.2 t.2)] else acc
structure MetI (A B ra rb acc : List St) : Prop where
  can : Can acc
  ca : Can ra
  cb : Can rb
  sep : ∀ a ∈ ra, ∀ b ∈ rb, ∀ x ∈ acc, ∃ e, x.2 = some e ∧ (e < a.1 ∨ e < b.1)
  has : ∀ m, (hasS A m = true ∧ hasS B m = true) ↔ (hasS acc m = true ∨ (hasS ra m = true ∧ hasS rb m = true))
theorem met_acc {acc : List St} {s t : St} (hc : Can acc) (hs : okS s) (hsep : ∀ x ∈ acc, ∃ e, x.2 = some e ∧ (e < s.1 ∨ e < t.1)) : Can (metStep acc s t) ∧ (∀ m, hasS (metStep acc s t) m = true ↔ hasS acc m = true ∨ (inS s m = true ∧ inS t m = true)) ∧
    ∀ x ∈ metStep acc s t, x ∈ acc ∨ x = (mx s.1 t.1, minE s.2 t.2) := by
  have h0 := hs.1
  have l1 : s.1 ≤ mx s.1 t.1 ∧ t.1 ≤ mx s.1 t.1 := by unfold mx; split <;> omega
  unfold metStep
  split
  · next c =>
    refine ⟨can_push hc (fun x hx => ?_) ⟨by show 0 ≤ mx s.1 t.1; omega, ltE_all.mp (ltEb_iff.mp c)⟩, fun m => ?_, fun x hx => ?_⟩
    · obtain ⟨e, e1, e2⟩ := hsep x hx
      refine ⟨e, e1, ?_⟩
      show e < mx s.1 t.1
      rcases e2 with e2 | e2 <;> omega
    · rw [hasS_app, hasS_one, Bool.or_eq_true, piece_has]
    · rcases List.mem_append.mp hx with hx | hx
      · exact .inl hx
      · exact .inr (by simpa using hx)
  · next c =>
    refine ⟨hc, fun m => ⟨.inl, ?_⟩, fun x hx => .inl hx⟩
    rintro (h | h)
    · exact h
    · have k := inS_iff.mp ((piece_has s t m).mpr h)
      exact absurd (ltEb_iff.mpr (ltE_all.mpr fun y hy => by have := k.2 y hy; have := k.1; simp only at *; omega)) c
theorem hasS_cons_iff {s : St} {r : List St} {m : Int} : hasS (s :: r) m = true ↔ inS s m = true ∨ hasS r m = true := by
  unfold hasS
  rw [List.any_cons, Bool.or_eq_true]
theorem met_left {A B ra rb acc : List St} {s t : St} (I : MetI A B (s :: ra) (t :: rb) acc) (h : minE s.2 t.2 = s.2) : MetI A B ra (t :: rb) (metStep acc s t) := by
  obtain ⟨s1, s2, s3⟩ := can_cons I.ca
  obtain ⟨t1, t2, t3⟩ := can_cons I.cb
  obtain ⟨c1, c2, c3⟩ := met_acc (t := t) I.can s1 fun x hx => I.sep s (by simp) t (by simp) x hx
  refine ⟨c1, s3, I.cb, fun a ha b hb x hx => ?_, fun m => ?_⟩
  · rcases c3 x hx with hx | hx
    · exact I.sep a (by simp [ha]) b hb x hx
    · obtain ⟨e, e1, e2⟩ := s2 a ha
      refine ⟨e, ?_, .inl e2⟩
      rw [hx, ← e1]
      exact h
  · rw [I.has, c2]
    have no : inS s m = true → hasS rb m = true → False := fun k1 k2 => by
      obtain ⟨b, hb, b1, _⟩ := hasS_iff.mp k2
      obtain ⟨e, e1, e2⟩ := t2 b hb
      rw [e1] at h
      cases q : s.2 with
      | none => rw [q] at h; cases h
      | some x =>
        rw [q] at h
        have h' : (if e < x then e else x) = x := Option.some.inj h
        have := (inS_iff.mp k1).2 x q
        split at h' <;> omega
    rw [hasS_cons_iff, hasS_cons_iff]
    constructor
    · rintro (k | ⟨k1 | k1, k2 | k2⟩)
      · exact .inl (.inl k)
      · exact .inl (.inr ⟨k1, k2⟩)
      · exact (no k1 k2).elim
      · exact .inr ⟨k1, .inl k2⟩
      · exact .inr ⟨k1, .inr k2⟩
    · rintro ((k | ⟨k1, k2⟩) | ⟨k1, k2⟩)
      · exact .inl k
      · exact .inr ⟨.inl k1, .inl k2⟩
      · exact .inr ⟨.inr k1, k2⟩
theorem met_right {A B ra rb acc : List St} {s t : St} (I : MetI A B (s :: ra) (t :: rb) acc) (h : minE s.2 t.2 ≠ s.2) : MetI A B (s :: ra) rb (metStep acc s t) := by
  obtain ⟨s1, s2, s3⟩ := can_cons I.ca
  obtain ⟨t1, t2, t3⟩ := can_cons I.cb
  obtain ⟨c1, c2, c3⟩ := met_acc (t := t) I.can s1 fun x hx => I.sep s (by simp) t (by simp) x hx
  refine ⟨c1, I.ca, t3, fun a ha b hb x hx => ?_, fun m => ?_⟩
  · rcases c3 x hx with hx | hx
    · exact I.sep a ha b (by simp [hb]) x hx
    · obtain ⟨e, e1, e2⟩ := t2 b hb
      refine ⟨e, ?_, .inr e2⟩
      rw [hx]
      show minE s.2 t.2 = some e
      rw [e1] at h ⊢
      cases q : s.2 with
      | none => rfl
      | some x =>
        rw [q] at h
        have h' : ¬ (if e < x then e else x) = x := fun z => h (congrArg some z)
        show some (if e < x then e else x) = some e
        split at h'
        · next c => rw [if_pos c]
        · exact absurd rfl h'
  · rw [I.has, c2]
    have no : inS t m = true → hasS ra m = true → False := fun k1 k2 => by
      obtain ⟨a, ha, a1, _⟩ := hasS_iff.mp k2
      obtain ⟨e, e1, e2⟩ := s2 a ha
      rw [e1] at h
      cases q : t.2 with
      | none => rw [q] at h; exact absurd rfl h
      | some x =>
        rw [q] at h
        have h' : ¬ (if x < e then x else e) = e := fun z => h (congrArg some z)
        have := (inS_iff.mp k1).2 x q
        split at h' <;> omega
    rw [hasS_cons_iff, hasS_cons_iff]
    constructor
    · rintro (k | ⟨k1 | k1, k2 | k2⟩)
      · exact .inl (.inl k)
      · exact .inl (.inr ⟨k1, k2⟩)
      · exact .inr ⟨.inl k1, k2⟩
      · exact (no k2 k1).elim
      · exact .inr ⟨.inr k1, k2⟩
    · rintro ((k | ⟨k1, k2⟩) | ⟨k1, k2⟩)
      · exact .inl k
      · exact .inr ⟨.inl k1, .inl k2⟩
      · exact .inr ⟨k1, .inr k2⟩
theorem met_start {A B : List St} (ha : Can A) (hb : Can B) : MetI A B A B [] := ⟨⟨by simp, by simp⟩, ha, hb, by simp, fun m => by simp [hasS]⟩
theorem met_end {A B ra rb acc : List St} (I : MetI A B ra rb acc) (h : ra = [] ∨ rb = []) : ∀ m, hasS acc m = true ↔ hasS A m = true ∧ hasS B m = true := fun m => by
  rw [I.has]
  rcases h with rfl | rfl <;> simp [hasS]
/-! ### how many -/
def cntV (e : Option Int) (m : Int) : Int := match e with
  | none => m
  | some e => if m < e then m else e
def cnt1 (m : Int) (s : St) : Int := if s.1 < m then cntV s.2 m - s.1 else 0
def cnt (ss : List St) (m : Int) : Int := (ss.map (cnt1 m)).sum
theorem cnt_snoc (ss : List St) (s : St) (m : Int) : cnt (ss ++ [s]) m = cnt ss m + cnt1 m s := by
  unfold cnt
  simp
theorem cnt_pos {s : St} (h : okS s) (m : Int) : (if cntV s.2 m - s.1 > 0 then cntV s.2 m - s.1 else 0) = cnt1 m s := by
  unfold cnt1 cntV
  cases q : s.2 with
  | none =>
    simp only
    split <;> split <;> omega
  | some e =>
    have := h.2 e q
    simp only
    split <;> split <;> split <;> omega
/-! ### of two -/
def kB (a b : Bool) (k : Int) : Bool := if k = 0 then a || b else if k = 1 then a && b else if k = 2 then a && !b else !a
theorem turns_app {A B : List St} {ts : List Int} (asc : ts.Pairwise (· < ·)) (h : ∀ k, k ∈ ts ↔ k = 0 ∨ (∃ s ∈ A ++ B, s.1 = k) ∨ ∃ s ∈ A ++ B, s.2 = some k) : Turns A ts ∧ Turns B ts :=
  ⟨⟨asc, fun s hs => (h _).mpr (.inr (.inl ⟨s, by simp [hs], rfl⟩)), fun s hs e he => (h _).mpr (.inr (.inr ⟨s, by simp [hs], he⟩))⟩,
    ⟨asc, fun s hs => (h _).mpr (.inr (.inl ⟨s, by simp [hs], rfl⟩)), fun s hs e he => (h _).mpr (.inr (.inr ⟨s, by simp [hs], he⟩))⟩⟩
theorem made_ok {A B : List St} {ts : List Int} (k : Int) (ha : ∀ s ∈ A, okS s) (hb : ∀ s ∈ B, okS s) (asc : ts.Pairwise (· < ·)) (h : ∀ k, k ∈ ts ↔ k = 0 ∨ (∃ s ∈ A ++ B, s.1 = k) ∨ ∃ s ∈ A ++ B, s.2 = some k) :
    Can (spb [] ts (ts.map fun m => kB (hasS A m) (hasS B m) k)) ∧ ∀ m, hasS (spb [] ts (ts.map fun m => kB (hasS A m) (hasS B m) k)) m = true ↔ 0 ≤ m ∧ kB (hasS A m) (hasS B m) k = true := by
  obtain ⟨TA, TB⟩ := turns_app asc h
  refine coverF (f := fun m => kB (hasS A m) (hasS B m) k) ⟨asc, fun dn t rest e m h1 h2 => ?_⟩ (fun t ht => ?_) ((h 0).mpr (.inl rfl))
  · show kB (hasS A m) (hasS B m) k = kB (hasS A t) (hasS B t) k
    rw [turn_same (e ▸ TA) h1 h2, turn_same (e ▸ TB) h1 h2]
  · have ok : ∀ s ∈ A ++ B, okS s := fun s hs => (List.mem_append.mp hs).elim (ha s) (hb s)
    rcases (h t).mp ht with rfl | ⟨s, hs, rfl⟩ | ⟨s, hs, e⟩
    · exact Int.le_refl _
    · exact (ok s hs).1
    · have h1 := (ok s hs).1
      have h2 := (ok s hs).2 t e
      omega
/-- the other one, made of the first -/
def nudge (s : St) : Option St := if s.2 = some (s.1 + 1) then none else some (s.1 + 1, s.2)
theorem nudge_can {ss : List St} (h : Can ss) : Can (ss.filterMap nudge) := by
  refine ⟨fun t ht => ?_, ?_⟩
  · obtain ⟨s, hs, e⟩ := List.mem_filterMap.mp ht
    have ok := h.ok s hs
    unfold nudge at e
    split at e
    · cases e
    · next c =>
      cases e
      refine ⟨by have := ok.1; show 0 ≤ s.1 + 1; omega, fun x hx => ?_⟩
      have h1 := ok.2 x hx
      have h2 : x ≠ s.1 + 1 := fun z => c (by rw [← z]; exact hx)
      show s.1 + 1 < x
      omega
  · refine List.Pairwise.filterMap (S := apart) nudge (fun x y ⟨e, e1, e2⟩ x' hx y' hy => ?_) h.ap
    unfold nudge at hx hy
    split at hx
    · cases hx
    · split at hy
      · cases hy
      · cases hx
        cases hy
        exact ⟨e, e1, by show e < y.1 + 1; omega⟩
theorem items_stD (ss : List St) : dItems (.tup (ss.map stD)) = fun _ => some (ss.map stD) := rfl
theorem oD_ok (x : Option Int) (n : Nat) : dOk n (oD x) = true := by
  cases x <;> simp [oD]
theorem stD_ok (s : St) (n : Nat) : dOk (n + 1) (stD s) = true := by
  simp [stD, oD_ok]
theorem sts_ok (ss : List St) (n : Nat) : (ss.map stD).all (dOk (n + 1)) = true := by
  rw [List.all_map]
  exact List.all_eq_true.mpr fun s _ => stD_ok s n
theorem oD_n : oD none = .non := rfl
theorem oD_s (i : Int) : oD (some i) = .int i := rfl
local macro_rules | `(tactic| walk_at "rd") => `(tactic| simp only [dSeq, dSet, dIf, dTst, dOp, dVar, dC, dRet, dRetN, dNext, dDrop, dBreak, dCont, dAnd, dOr, dNot, dAndV, dOrV, dNotV, dIfE, dTup, dLstF, dLst, dCons, dNil, dCB, dCall, dUn, dNegI, dI, dI0, dEq, dNe, dIs, dIsNot, dIn, dNotIn, dIx, isN_non, isN_bl, isN_int, isN_str, isN_tup, isN_lst, isN_rf, DL.rLen, rInt, rAbs, rMax2, rMin2, DL.rGcd, rTuple, rList, rIs, rIsT, ar0, ar1, ar2, ar3, ar4, ar5, ar6, ar7, ar8, dEnds, dMt, dMt0, mAppend, mPop, mReverse, dSetL, dPut, dAsg, dgName, dgTup, dgCons, dgNil, dFor, diSeq, diRng1, diRng2, dLcF, dLc, dwipe, dFz, dstart, List.map_cons, List.map_nil, List.length_cons, List.length_nil, List.cons_append, List.nil_append, List.append_nil, List.replicate, Nat.reduceAdd, Nat.reduceSub, Nat.reduceLeDiff, Int.reduceNeg, List.set_cons_zero, List.set_cons_succ, List.getElem?_cons_zero, List.getElem?_cons_succ, Option.some.injEq, exists_eq_left', exists_eq_left, exists_eq_right, exists_eq, exists_and_left, exists_and_right, D.int.injEq, D.bl.injEq, D.str.injEq, D.tup.injEq, D.lst.injEq, D.ref.injEq, D.ty.injEq, D.dct.injEq, List.cons.injEq, and_assoc, and_true, true_and, and_self, reduceCtorEq, false_and, and_false, if_true, if_false, if_pos, ite_true, ite_false, Bool.false_eq_true, decide_eq_true_eq, Bool.not_eq_true', decide_eq_false_iff_not, Bool.not_true, Bool.not_false, decide_true, decide_false, eqv_int, eqv_str, eqv_bl, dOk_int, dOk_bl, dOk_non, dOk_tup, dOk_lst, dOk_str, List.all_cons, List.all_nil, Bool.and_true, Bool.true_and, Bool.and_self, dItems_tup, dItems_lst, dItems_rf, CMulA, CDivA, CPowA, Int.reduceLT, Int.reduceLE, Int.reducePow, Int.reduceToNat, Int.reduceMul, Int.reduceAdd, Int.reduceSub, Nat.reducePow, true_or, or_true, ne_eq, not_false_eq_true, not_true_eq_false, dAt_tup, dAt_lst, dAt_rf, dLenOf_tup, dLenOf_lst, dLenOf_rf, dLenOf_str, dTyN_non, dTyN_bl, dTyN_int, dTyN_str, dTyN_tup, dTyN_lst, dTyN_dct, dTyN_rf, dIntOf_int, dIntOf_bl, knownT, subT, atI_0, atI_1, atI_2, atI_3, atI_4, atI_5, atI_neg1, mput_same, mput_mput, eqv_non, tyNames, Option.map_some, String.reduceBEq, Bool.or_true, Bool.true_or, Bool.or_false, Bool.false_or, Bool.false_and, Bool.and_false, beq_self_eq_true, BEq.rfl, List.any_cons, List.any_nil, sizeLine_eq, rLenB, Bool.true_eq_false, implies_true, Nat.zero_le, Bool.or_self, String.reduceEq, dAdd_ii, dAdd_ss, dAdd_tt, dMulA_ii, dMulA_si, dIxS_str, dIxS_tup, dIxS_lst, dIxS_ref, dCat, dCatF, dRep, dSl, dNoP, dPart, dJoin, mExtend, mIndex, rAnyL, rAllL, rSumL, rMaxL, rMinL, dLRg, diEnum, rSortD, dLc2F, dLc2, dYes, diEnumT, dSlS, rSortK, dFzS, dTupRev, diRev, diZip, dMulT, zipD, dDc, dDGet1, dLtD, dGtD, rListK, dUpper, diStr, dInS, dSortL, dSortSet, dStar, rIntS, rStrI, dKIx, dKIn, dKNotIn, rLenK, dKNew, dFzK, dFzD, dKPut, diKeys, diVals, diItems, mInsert, mPopAt, dKGet1, dKGet2, dKc, dDict_dct, dDict_put, isKb_int, isKb_str, true_implies, false_implies, dDIx, dDIn, dDNotIn, dSetD, dDNew, dSortLen, sortLenB, rSortO, dMIx, dMIn, dMNotIn, dMGet2, diMItems, diMKeys, dFzM, dFzMS, dDSetDf, dDGet2, items_enE, oD_n, oD_s, stD])
local macro_rules | `(tactic| walk_at "st") => `(tactic| (refine seq_i ?_; simp only [dSet, dIf, dTst, dOp, dVar, dC, dRet, dRetN, dNext, dDrop, dBreak, dCont, dAnd, dOr, dNot, dAndV, dOrV, dNotV, dIfE, dTup, dLstF, dLst, dCons, dNil, dCB, dCall, dUn, dNegI, dI, dI0, dEq, dNe, dIs, dIsNot, dIn, dNotIn, dIx, isN_non, isN_bl, isN_int, isN_str, isN_tup, isN_lst, isN_rf, DL.rLen, rInt, rAbs, rMax2, rMin2, DL.rGcd, rTuple, rList, rIs, rIsT, ar0, ar1, ar2, ar3, ar4, ar5, ar6, ar7, ar8, dEnds, dMt, dMt0, mAppend, mPop, mReverse, dSetL, dPut, dAsg, dgName, dgTup, dgCons, dgNil, dFor, diSeq, diRng1, diRng2, dLcF, dLc, dwipe, dFz, dstart, List.map_cons, List.map_nil, List.length_cons, List.length_nil, List.cons_append, List.nil_append, List.append_nil, List.replicate, Nat.reduceAdd, Nat.reduceSub, Nat.reduceLeDiff, Int.reduceNeg, List.set_cons_zero, List.set_cons_succ, List.getElem?_cons_zero, List.getElem?_cons_succ, Option.some.injEq, exists_eq_left', exists_eq_left, exists_eq_right, exists_eq, exists_and_left, exists_and_right, D.int.injEq, D.bl.injEq, D.str.injEq, D.tup.injEq, D.lst.injEq, D.ref.injEq, D.ty.injEq, D.dct.injEq, List.cons.injEq, and_assoc, and_true, true_and, and_self, reduceCtorEq, false_and, and_false, if_true, if_false, if_pos, ite_true, ite_false, Bool.false_eq_true, decide_eq_true_eq, Bool.not_eq_true', decide_eq_false_iff_not, Bool.not_true, Bool.not_false, decide_true, decide_false, eqv_int, eqv_str, eqv_bl, dOk_int, dOk_bl, dOk_non, dOk_tup, dOk_lst, dOk_str, List.all_cons, List.all_nil, Bool.and_true, Bool.true_and, Bool.and_self, dItems_tup, dItems_lst, dItems_rf, CMulA, CDivA, CPowA, Int.reduceLT, Int.reduceLE, Int.reducePow, Int.reduceToNat, Int.reduceMul, Int.reduceAdd, Int.reduceSub, Nat.reducePow, true_or, or_true, ne_eq, not_false_eq_true, not_true_eq_false, dAt_tup, dAt_lst, dAt_rf, dLenOf_tup, dLenOf_lst, dLenOf_rf, dLenOf_str, dTyN_non, dTyN_bl, dTyN_int, dTyN_str, dTyN_tup, dTyN_lst, dTyN_dct, dTyN_rf, dIntOf_int, dIntOf_bl, knownT, subT, atI_0, atI_1, atI_2, atI_3, atI_4, atI_5, atI_neg1, mput_same, mput_mput, eqv_non, tyNames, Option.map_some, String.reduceBEq, Bool.or_true, Bool.true_or, Bool.or_false, Bool.false_or, Bool.false_and, Bool.and_false, beq_self_eq_true, BEq.rfl, List.any_cons, List.any_nil, sizeLine_eq, rLenB, Bool.true_eq_false, implies_true, Nat.zero_le, Bool.or_self, String.reduceEq, dAdd_ii, dAdd_ss, dAdd_tt, dMulA_ii, dMulA_si, dIxS_str, dIxS_tup, dIxS_lst, dIxS_ref, dCat, dCatF, dRep, dSl, dNoP, dPart, dJoin, mExtend, mIndex, rAnyL, rAllL, rSumL, rMaxL, rMinL, dLRg, diEnum, rSortD, dLc2F, dLc2, dYes, diEnumT, dSlS, rSortK, dFzS, dTupRev, diRev, diZip, dMulT, zipD, dDc, dDGet1, dLtD, dGtD, rListK, dUpper, diStr, dInS, dSortL, dSortSet, dStar, rIntS, rStrI, dKIx, dKIn, dKNotIn, rLenK, dKNew, dFzK, dFzD, dKPut, diKeys, diVals, diItems, mInsert, mPopAt, dKGet1, dKGet2, dKc, dDict_dct, dDict_put, isKb_int, isKb_str, true_implies, false_implies, dDIx, dDIn, dDNotIn, dSetD, dDNew, dSortLen, sortLenB, rSortO, dMIx, dMIn, dMNotIn, dMGet2, diMItems, diMKeys, dFzM, dFzMS, dDSetDf, dDGet2, items_enE, oD_n, oD_s, stD]))
local macro_rules | `(tactic| walk_at "p") => `(tactic| simp only [dRet, dOp, dVar, dCall, dCB, dCons, dNil, ar0, ar1, ar2, ar3, ar4, ar5, DL.rLen, dIx, dEnds, dstart, List.map_cons, List.map_nil, List.length_cons, List.length_nil, List.cons_append, List.nil_append, List.replicate, Nat.reduceAdd, Nat.reduceSub, Nat.reduceLeDiff, List.getElem?_cons_zero, List.getElem?_cons_succ, Option.some.injEq, exists_eq_left', exists_eq_left, exists_and_left, exists_and_right, List.cons.injEq, and_assoc, and_true, true_and, D.ref.injEq, D.int.injEq])
local macro_rules | `(tactic| walk_at "s1") => `(tactic| simp only [dSet, dIf, dTst, dOp, dVar, dC, dRet, dRetN, dNext, dDrop, dBreak, dCont, dAnd, dOr, dNot, dAndV, dOrV, dNotV, dIfE, dTup, dLstF, dLst, dCons, dNil, dCB, dCall, dUn, dNegI, dI, dI0, dEq, dNe, dIs, dIsNot, dIn, dNotIn, dIx, isN_non, isN_bl, isN_int, isN_str, isN_tup, isN_lst, isN_rf, DL.rLen, rInt, rAbs, rMax2, rMin2, DL.rGcd, rTuple, rList, rIs, rIsT, ar0, ar1, ar2, ar3, ar4, ar5, ar6, ar7, ar8, dEnds, dMt, dMt0, mAppend, mPop, mReverse, dSetL, dPut, dAsg, dgName, dgTup, dgCons, dgNil, dFor, diSeq, diRng1, diRng2, dLcF, dLc, dwipe, dFz, dstart, List.map_cons, List.map_nil, List.length_cons, List.length_nil, List.cons_append, List.nil_append, List.append_nil, List.replicate, Nat.reduceAdd, Nat.reduceSub, Nat.reduceLeDiff, Int.reduceNeg, List.set_cons_zero, List.set_cons_succ, List.getElem?_cons_zero, List.getElem?_cons_succ, Option.some.injEq, exists_eq_left', exists_eq_left, exists_eq_right, exists_eq, exists_and_left, exists_and_right, D.int.injEq, D.bl.injEq, D.str.injEq, D.tup.injEq, D.lst.injEq, D.ref.injEq, D.ty.injEq, D.dct.injEq, List.cons.injEq, and_assoc, and_true, true_and, and_self, reduceCtorEq, false_and, and_false, if_true, if_false, if_pos, ite_true, ite_false, Bool.false_eq_true, decide_eq_true_eq, Bool.not_eq_true', decide_eq_false_iff_not, Bool.not_true, Bool.not_false, decide_true, decide_false, eqv_int, eqv_str, eqv_bl, dOk_int, dOk_bl, dOk_non, dOk_tup, dOk_lst, dOk_str, List.all_cons, List.all_nil, Bool.and_true, Bool.true_and, Bool.and_self, dItems_tup, dItems_lst, dItems_rf, CMulA, CDivA, CPowA, Int.reduceLT, Int.reduceLE, Int.reducePow, Int.reduceToNat, Int.reduceMul, Int.reduceAdd, Int.reduceSub, Nat.reducePow, true_or, or_true, ne_eq, not_false_eq_true, not_true_eq_false, dAt_tup, dAt_lst, dAt_rf, dLenOf_tup, dLenOf_lst, dLenOf_rf, dLenOf_str, dTyN_non, dTyN_bl, dTyN_int, dTyN_str, dTyN_tup, dTyN_lst, dTyN_dct, dTyN_rf, dIntOf_int, dIntOf_bl, knownT, subT, atI_0, atI_1, atI_2, atI_3, atI_4, atI_5, atI_neg1, mput_same, mput_mput, eqv_non, tyNames, Option.map_some, String.reduceBEq, Bool.or_true, Bool.true_or, Bool.or_false, Bool.false_or, Bool.false_and, Bool.and_false, beq_self_eq_true, BEq.rfl, List.any_cons, List.any_nil, sizeLine_eq, rLenB, Bool.true_eq_false, implies_true, Nat.zero_le, Bool.or_self, String.reduceEq, dAdd_ii, dAdd_ss, dAdd_tt, dMulA_ii, dMulA_si, dIxS_str, dIxS_tup, dIxS_lst, dIxS_ref, dCat, dCatF, dRep, dSl, dNoP, dPart, dJoin, mExtend, mIndex, rAnyL, rAllL, rSumL, rMaxL, rMinL, dLRg, diEnum, rSortD, dLc2F, dLc2, dYes, diEnumT, dSlS, rSortK, dFzS, dTupRev, diRev, diZip, dMulT, zipD, dDc, dDGet1, dLtD, dGtD, rListK, dUpper, diStr, dInS, dSortL, dSortSet, dStar, rIntS, rStrI, dKIx, dKIn, dKNotIn, rLenK, dKNew, dFzK, dFzD, dKPut, diKeys, diVals, diItems, mInsert, mPopAt, dKGet1, dKGet2, dKc, dDict_dct, dDict_put, isKb_int, isKb_str, true_implies, false_implies, dDIx, dDIn, dDNotIn, dSetD, dDNew, dSortLen, sortLenB, rSortO, dMIx, dMIn, dMNotIn, dMGet2, diMItems, diMKeys, dFzM, dFzMS, dDSetDf, dDGet2, items_enE, oD_n, oD_s, stD])
abbrev sp_later_end : DSp := ar2 fun a b M Q => ∃ x y : Option Int, a = oD x ∧ b = oD y ∧ Q (oD (later x y)) M
theorem ok_later_end (F : Def K mg "later_end" s_later_end ["end", "other"]) (B : Bi K mg) (I : Im mg)  : Cal P w K mg base 1 "later_end" ["end", "other"] sp_later_end := by
  have sc := sc_later_end
  refine F.cal sc (fun ds M Q h => len2 h) (fun f cdv A outer s H E hr => (ds_cons (ds_if (dt_w (dw_or (dt_cmp o_is (d_v 0) d_non (nomark _)) (dw_or1 (dt_cmp o_is (d_v 1) d_non (nomark _)))))
    (ds_one (ds_ret d_non))
    ds_nil)
    (ds_one (ds_ret (d_cb (c_max2 rfl) rfl B.b_max boot_max (da_cons (d_v 0) (da_cons (d_v 1) da_nil))))))) (fun ds M Q h => ?_)
  obtain ⟨a, b, rfl, x, y, rfl, rfl, h⟩ := h
  cases x with
  | none =>
    walk_at "rd"
    exact ret_of h
  | some x =>
    cases y with
    | none =>
      walk_at "rd"
      exact ret_of h
    | some y =>
      walk_at "rd"
      exact ret_of (by simpa [later, oD] using h)
def keyD : D → D
  | .tup (x :: _) => x
  | d => d
theorem keys_sts (ss : List St) : (ss.map stD).map keyD = ss.map fun s => .int s.1 := by
  rw [List.map_map]
  rfl
open PySem.W (AllAlike Sortable alike dataLe) in
theorem sts_sortK (ss : List St) : AllAlike (((ss.map stD).map keyD).map D.py) ∧ SortOk (((ss.map stD).map keyD).map D.py) ∧ ((ss.map stD).map keyD).all (dOk 32) = true := by
  rw [keys_sts]
  refine ⟨fun d hd d' hd' => ?_, .inl (.inr fun d hd => ?_), ?_⟩
  · simp only [List.mem_map] at hd hd'
    obtain ⟨_, ⟨e, _, rfl⟩, rfl⟩ := hd
    obtain ⟨_, ⟨f, _, rfl⟩, rfl⟩ := hd'
    simp [D.py, alike]
  · simp only [List.mem_map] at hd
    obtain ⟨_, ⟨e, _, rfl⟩, rfl⟩ := hd
    simp [D.py]
  · rw [List.all_map]
    exact List.all_eq_true.mpr fun s _ => by simp
def begLe : D → D → Bool := PySem.W.dataLe false fun x => D.py (keyD x)
theorem begLe_st (s t : St) : begLe (stD s) (stD t) = decide (s.1 ≤ t.1) := by
  show (!PySem.W.dataLt (D.py (.int t.1)) (D.py (.int s.1))) = _
  rw [D.py, D.py, PySem.W.dataLt_int, PySem.W.not_lt_int]
theorem sort_sts (ss : List St) : ∃ us : List St, (ss.map stD).mergeSort begLe = us.map stD ∧ us.Perm ss ∧ us.Pairwise fun x y => x.1 ≤ y.1 := by
  refine ⟨ss.mergeSort fun x y => decide (x.1 ≤ y.1), ?_, List.mergeSort_perm _ _, ?_⟩
  · rw [List.map_mergeSort (r := fun x y : St => decide (x.1 ≤ y.1)) (s := begLe) (f := stD) (fun x _ y _ => (begLe_st x y).symm)]
  · have := List.pairwise_mergeSort (le := fun x y : St => decide (x.1 ≤ y.1)) (fun a b c h1 h2 => by simp at *; omega) (fun a b => by simp; omega) ss
    exact this.imp fun h => by simpa using h
abbrev sp_span_of (tb : Addr) : DSp := ar1 fun a M Q => ∃ ss : List St, dItems a M = some (ss.map stD) ∧ a ≠ .tup (ss.map stD) ∧ M tb = some (.tab (lamQ "span_of")) ∧ ss.length ≤ 1000 ∧ (∀ s ∈ ss, okS s) ∧ ∀ rs, Can rs → rs.length ≤ ss.length → (∀ m, hasS rs m = hasS ss m) → Q (.tup (rs.map stD)) M
theorem ok_span_of {cb : Addr} (F : DefC K mg "span_of" s_span_of ["stretches"] cb) (TB : LamX.TabB base mg cb tb) (B : Bi K mg) (I : Im mg) (c_later_end : Cal P w K mg base 1 "later_end" ["end", "other"] sp_later_end) : Cal P w K mg base 4 "span_of" ["stretches"] (sp_span_of tb) := by
  have sc := sc_span_of
  refine F.cal sc (fun ds M Q h => len1 h) (fun f A outer s H E hr => (ds_cons (ds_set (i := 1) sc.nd rfl (Or.inl rfl) (d_lst da_nil))
    (ds_cons (ds_for PassesOwn.never rfl (di_seq (d_fz (d_sortL (k := 0) (a := "stretch") (x := "span_of") TB rfl rfl ⟨rfl, rfl, rfl, by decide +kernel, rfl, by decide +kernel, by decide +kernel⟩ (hr.mono (by first | decide | omega)).in1.in1 rfl B.b_sorted (da_cons (d_v 0) da_nil) (fun _ _ _ _ _ _ hr => (d_ix x_ix (d_v 0) d_int (fun _ _ => rfl)))))) (dg_tup (n := 2) rfl (dgs_cons (dg_name (i := 2) sc.nd rfl (Or.inl rfl)) (dgs_cons (dg_name (i := 3) sc.nd rfl (Or.inl rfl)) dgs_nil)))
    (ds_one (ds_if (dt_w (dw_and (dt_cmp o_gt (d_cb c_len rfl B.b_len boot_len (da_cons (d_v 1) da_nil)) d_int (nomark _)) (dw_and1 (dt_w (dw_or (dt_cmp o_is (d_ix x_ix (d_ix x_ix (d_v 1) (d_neg d_int) (fun _ _ => rfl)) d_int (fun _ _ => rfl)) d_non (nomark _)) (dw_or1 (dt_cmp o_le (d_v 2) (d_ix x_ix (d_ix x_ix (d_v 1) (d_neg d_int) (fun _ _ => rfl)) d_int (fun _ _ => rfl)) (nomark _))))))))
    (ds_one (ds_put (d_tup (da_cons (d_ix x_ix (d_ix x_ix (d_v 1) (d_neg d_int) (fun _ _ => rfl)) d_int (fun _ _ => rfl)) (da_cons (d_call c_later_end (hr.mono (by first | decide | omega)) rfl (da_cons (d_ix x_ix (d_ix x_ix (d_v 1) (d_neg d_int) (fun _ _ => rfl)) d_int (fun _ _ => rfl)) (da_cons (d_v 3) da_nil))) da_nil))) (d_v 1) (d_neg d_int) s_lst))
    (ds_one (ds_expr (d_mt PySem.F.slot_list_append PySem.F.type_list_append m_append (d_v 1) (da_cons (d_tup (da_cons (d_v 2) (da_cons (d_v 3) da_nil))) da_nil)))))))
    (ds_one (ds_ret (d_ct c_tuple rfl B.b_tuple boot_tuple (da_cons (d_v 1) da_nil))))))) (fun ds M Q h => ?_)
  obtain ⟨a, rfl, ss, hs, hnt, hM, hl, hv, h⟩ := h
  walk_at "st"
  intro q hq
  have hqt : tb ≠ q := ne_of_fresh hM hq
  walk_at "st"
  have ha : a ≠ .ref q := fun e => by rw [e, dItems_rf, hq] at hs; cases hs
  obtain ⟨k1, k2, k3⟩ := sts_sortK ss
  refine ⟨ss.map stD, by rw [items_put ha]; exact hs, hnt, by rw [mput_ne hqt]; exact hM, keyD, fun x hx Q' hq' => ?_, k3, k1, k2, fun p1 hp1 => ?_⟩
  · obtain ⟨s, _, rfl⟩ := List.mem_map.mp hx
    exact ⟨_, rfl, _, rfl, hq'⟩
  obtain ⟨us, hus, hperm, hsrt⟩ := sort_sts ss
  have hul := hperm.length_eq
  refine ⟨_, rfl, fun _ => ?_⟩
  rw [mdel_mput hp1, show (ss.map stD).mergeSort (PySem.W.dataLe false fun x => D.py (keyD x)) = us.map stD from hus]
  refine for_ind (fun items m1 M1 => ∃ (rest acc dn : List St) (x2 x3 : Option D), items = rest.map stD ∧ dn ++ rest = us ∧ M1 = mput M q (.lst (acc.map stD)) ∧ Can acc ∧ (∀ x ∈ acc, ∀ y ∈ rest, x.1 ≤ y.1) ∧ (∀ m, hasS acc m = true ↔ hasS dn m = true) ∧ acc.length ≤ dn.length ∧ m1 = [some a, some (.ref q), x2, x3]) ?_ ?_ _ _ _ ⟨us, [], [], _, _, rfl, rfl, rfl, ⟨by simp, by simp⟩, by simp, by simp, by simp, rfl⟩
  · rintro m1 M1 ⟨rest, acc, dn, x2, x3, hi, hd, rfl, hc, _, hh, hal, rfl⟩
    refine ⟨srcV_none, ?_⟩
    cases rest with
    | cons x r => cases hi
    | nil =>
      rw [List.append_nil] at hd
      subst hd
      walk_at "rd"
      refine ret_le (MLe.put (.refl M) hq) (h acc hc (by omega) fun m => hasS_ext ?_)
      rw [hh]
      rw [hasS_iff, hasS_iff]
      exact ⟨fun ⟨s, hs, k⟩ => ⟨s, hperm.mem_iff.mp hs, k⟩, fun ⟨s, hs, k⟩ => ⟨s, hperm.mem_iff.mpr hs, k⟩⟩
  · rintro z items m1 M1 Cn hC ⟨rest, acc, dn, x2, x3, hi, hd, rfl, hc, hbr, hh, hal, rfl⟩
    refine ⟨srcV_none, ?_⟩
    cases rest with
    | nil => cases hi
    | cons s rest =>
      rw [List.map_cons] at hi
      injection hi with h1 h2
      subst h1
      subst h2
      have hsm : s ∈ ss := hperm.mem_iff.mp (by rw [← hd]; simp)
      have hso := hv s hsm
      obtain ⟨st1, st2, st3⟩ := mg_step hc hso fun x hx => hbr x hx s (by simp)
      have hl2 : acc.length ≤ 1000 := by
        rw [← hd, List.length_append] at hul
        omega
      have a2 : ∀ x ∈ s :: rest, s.1 ≤ x.1 := fun x hx => by
        rw [← hd, List.pairwise_append] at hsrt
        rcases List.mem_cons.mp hx with rfl | hx
        · exact Int.le_refl _
        · exact (List.pairwise_cons.mp hsrt.2.1).1 x hx
      have go : ∀ acc2, acc2 = mgStep acc s → acc2.length ≤ acc.length + 1 → fg Cn [some a, some (.ref q), some (.int s.1), some (oD s.2)] (mput M q (.lst (acc2.map stD))) := fun acc2 e el => fg_of (hC _ _ ⟨rest, acc2, dn ++ [s], _, _, rfl, by rw [← hd]; simp, rfl, by rw [e]; exact st1, fun x hx y hy => Int.le_trans (st3 x (by rw [← e]; exact hx)) (a2 y (by simp [hy])), fun m => by
        rw [e, st2, hh]
        simp [hasS, or_comm], by rw [List.length_append, List.length_singleton]; omega, rfl⟩)
      cases e : acc.getLast? with
      | none =>
        obtain rfl := List.getLast?_eq_none_iff.mp e
        walk_at "rd"
        rw [if_neg (by decide)]
        exact ⟨⟨_, rfl⟩, _, rfl, by decide, go [s] rfl (by simp)⟩
      | some l =>
        obtain ⟨pre, rfl⟩ := List.getLast?_eq_some_iff.mp e
        have elast : ((pre ++ [l]).map stD).getLast? = some (stD l) := by simp
        have eix : ixN ((pre ++ [l]).map stD).length (-1) = some pre.length := by
          rw [List.length_map, List.length_append, List.length_singleton]
          simp [ixN]
          omega
        have eset : ∀ t : St, ((pre ++ [l]).map stD).set pre.length (.tup [.int t.1, oD t.2]) = (pre ++ [t]).map stD := fun t => by
          rw [List.map_append, List.map_append, List.set_append_right _ _ (by simp)]
          simp [stD]
        have emg : mgStep (pre ++ [l]) s = if reach l.2 s.1 = true then pre ++ [(l.1, later l.2 s.2)] else pre ++ [l] ++ [s] := by
          unfold mgStep
          rw [e]
          simp
        cases q2 : l.2 with
        | none =>
          rw [q2] at emg
          walk_at "rd"
          rw [if_pos (by simp)]
          refine ⟨stD l, elast, _, rfl, _, rfl, ?_⟩
          rw [if_pos (by rw [q2]; rfl)]
          refine ⟨stD l, elast, _, rfl, _, rfl, stD l, elast, _, rfl, _, rfl, l.2, rfl, s.2, rfl, _, rfl, pre.length, eix, ?_⟩
          rw [eset (l.1, later l.2 s.2), q2]
          exact go _ (by rw [emg]; exact (if_pos rfl).symm) (by simp)
        | some x =>
          rw [q2] at emg
          walk_at "rd"
          rw [if_pos (by simp)]
          refine ⟨stD l, elast, _, rfl, _, rfl, ?_⟩
          rw [if_neg (by rw [q2, oD_s, isN_int]; simp)]
          refine ⟨stD l, elast, _, rfl, _, rfl, x, by rw [q2]; rfl, ?_⟩
          split
          · next c =>
            refine ⟨stD l, elast, _, rfl, _, rfl, stD l, elast, _, rfl, _, rfl, l.2, rfl, s.2, rfl, _, rfl, pre.length, eix, ?_⟩
            rw [eset (l.1, later l.2 s.2), q2]
            exact go _ (by rw [emg, if_pos (by simpa [reach] using c)]) (by simp)
          · next c =>
            refine ⟨⟨_, rfl⟩, _, rfl, by rw [List.length_map]; omega, ?_⟩
            have := go (pre ++ [l] ++ [s]) (by rw [emg, if_neg (by simpa [reach] using c)]) (by simp)
            rw [List.map_append] at this
            exact this
theorem hasS_cons (s : St) (r : List St) (m : Int) : hasS (s :: r) m = (inS s m || hasS r m) := rfl
abbrev sp_l_has : DSp := ar2 fun a b M Q => ∃ (ss : List St) (i : Int), (a = .tup (ss.map stD) ∨ a = .lst (ss.map stD)) ∧ b = .int i ∧ Q (.bl (hasS ss i)) M
theorem ok_l_has (F : Def K mg "_law_has" s_l_has ["span", "moment"]) (B : Bi K mg) (I : Im mg)  : Cal P w K mg base 1 "_law_has" ["span", "moment"] sp_l_has := by
  have sc := sc_l_has
  refine F.cal sc (fun ds M Q h => len2 h) (fun f cdv A outer s H E hr => (ds_cons (ds_for PassesOwn.never rfl (di_seq (d_v 0)) (dg_name (i := 2) sc.nd rfl (Or.inl rfl))
    (ds_one (ds_if (dt_w (dw_and (dt_cmp o_le (d_ix x_ix (d_v 2) d_int (fun _ _ => rfl)) (d_v 1) (nomark _)) (dw_and1 (dt_w (dw_or (dt_cmp o_is (d_ix x_ix (d_v 2) d_int (fun _ _ => rfl)) d_non (nomark _)) (dw_or1 (dt_cmp o_lt (d_v 1) (d_ix x_ix (d_v 2) d_int (fun _ _ => rfl)) (nomark _))))))))
    (ds_one (ds_ret d_bl))
    ds_nil)))
    (ds_one (ds_ret d_bl)))) (fun ds M Q h => ?_)
  obtain ⟨a, b, rfl, ss, i, ha, rfl, h⟩ := h
  have hs : ∀ M, dItems a M = some (ss.map stD) := by rcases ha with rfl | rfl <;> exact fun _ => rfl
  have hat : dAt a = none := by rcases ha with rfl | rfl <;> rfl
  walk_at "st"
  refine ⟨_, hs M, fun _ => ?_⟩
  rw [hat]
  refine for_ind (fun items m1 M1 => ∃ (rest : List St) (x2 : Option D), items = rest.map stD ∧ M1 = M ∧ hasS ss i = hasS rest i ∧ m1 = [some a, some (.int i), x2]) ?_ ?_ _ _ _ ⟨ss, _, rfl, rfl, rfl, rfl⟩
  · rintro m1 M1 ⟨rest, x2, hi, rfl, e, rfl⟩
    refine ⟨srcV_none, ?_⟩
    cases rest with
    | cons x r => cases hi
    | nil =>
      rw [e] at h
      walk_at "rd"
      exact ret_of h
  · rintro z items m1 M1 Cn hC ⟨rest, x2, hi, rfl, e, rfl⟩
    refine ⟨srcV_none, ?_⟩
    cases rest with
    | nil => cases hi
    | cons s rest =>
      rw [List.map_cons] at hi
      injection hi with h1 h2
      subst h1
      subst h2
      rw [hasS_cons] at e
      have no : inS s i = false → fg Cn [some a, some (.int i), some (stD s)] M1 := fun q => fg_of (hC _ _ ⟨rest, _, rfl, rfl, by rw [e, q, Bool.false_or], rfl⟩)
      have yes : inS s i = true → DL.ret Q (.bl true) M1 := fun q => ret_of (by rw [e, q, Bool.true_or] at h; exact h)
      unfold inS at no yes
      unfold stD at no ⊢
      cases q : s.2 with
      | none =>
        rw [q] at no yes
        walk_at "rd"
        split
        · next c => exact yes (by simp [c])
        · next c => exact no (by simp [c])
      | some x =>
        rw [q] at no yes
        walk_at "rd"
        split
        · next c =>
          split
          · next c2 => exact yes (by simp [c, c2])
          · next c2 => exact no (by simp [c2])
        · next c => exact no (by simp [c])

theorem spb_cut : ∀ {acc : List St} {ts : List Int} {fl : List Bool} (k : Nat), k < ts.length → fl.length = ts.length → spb acc (ts.drop k) (fl.drop k) = spb (if fl[k]? = some true then spStep acc (ts.getD k 0) ts[k + 1]? else acc) (ts.drop (k + 1)) (fl.drop (k + 1)) := by
  intro acc ts fl k h1 h2
  rw [List.drop_eq_getElem_cons h1, List.drop_eq_getElem_cons (by omega : k < fl.length)]
  show spb (if fl[k] = true then spStep acc ts[k] (ts.drop (k + 1)).head? else acc) _ _ = _
  rw [List.head?_drop, List.getElem?_eq_getElem (by omega : k < fl.length)]
  simp [h1]
abbrev sp_l_span_by : DSp := ar2 fun a b M Q => ∃ (ts : List Int) (fl : List Bool), a = .lst (ts.map D.int) ∧ b = .lst (fl.map D.bl) ∧ fl.length = ts.length ∧ ts.length ≤ 4000 ∧ Q (.tup ((spb [] ts fl).map stD)) M
theorem ok_l_span_by (F : Def K mg "_law_span_by" s_l_span_by ["turns", "flags"]) (B : Bi K mg) (I : Im mg)  : Cal P w K mg base 1 "_law_span_by" ["turns", "flags"] sp_l_span_by := by
  have sc := sc_l_span_by
  refine F.cal sc (fun ds M Q h => len2 h) (fun f cdv A outer s H E hr => (ds_cons (ds_set (i := 2) sc.nd rfl (Or.inl rfl) (d_lst da_nil))
    (ds_cons (ds_for PassesOwn.never rfl (di_range1 rfl B.b_range (da_cons (d_cb c_lenB rfl B.b_len boot_len (da_cons (d_v 0) da_nil)) da_nil)) (dg_name (i := 3) sc.nd rfl (Or.inl rfl))
    (ds_cons (ds_if (dt_not (dt_val (d_ix x_ix (d_v 1) (d_v 3) (fun _ _ => rfl))))
    (ds_one ds_cont)
    ds_nil)
    (ds_cons (ds_set (i := 4) sc.nd rfl (Or.inl rfl) d_non)
    (ds_cons (ds_if (dt_cmp o_lt (d_op o_add (d_v 3) d_int) (d_cb c_len rfl B.b_len boot_len (da_cons (d_v 0) da_nil)) (nomark _))
    (ds_one (ds_set (i := 4) sc.nd rfl (Or.inl rfl) (d_ix x_ix (d_v 0) (d_op o_add (d_v 3) d_int) (fun _ _ => rfl))))
    ds_nil)
    (ds_one (ds_if (dt_w (dw_and (dt_cmp o_gt (d_cb c_len rfl B.b_len boot_len (da_cons (d_v 2) da_nil)) d_int (nomark _)) (dw_and1 (dt_cmp (o_eq (hu_eq hr)) (d_ix x_ix (d_ix x_ix (d_v 2) (d_neg d_int) (fun _ _ => rfl)) d_int (fun _ _ => rfl)) (d_ix x_ix (d_v 0) (d_v 3) (fun _ _ => rfl)) (nomark _)))))
    (ds_one (ds_put (d_tup (da_cons (d_ix x_ix (d_ix x_ix (d_v 2) (d_neg d_int) (fun _ _ => rfl)) d_int (fun _ _ => rfl)) (da_cons (d_v 4) da_nil))) (d_v 2) (d_neg d_int) s_lst))
    (ds_one (ds_expr (d_mt PySem.F.slot_list_append PySem.F.type_list_append m_append (d_v 2) (da_cons (d_tup (da_cons (d_ix x_ix (d_v 0) (d_v 3) (fun _ _ => rfl)) (da_cons (d_v 4) da_nil))) da_nil))))))))))
    (ds_one (ds_ret (d_ct c_tuple rfl B.b_tuple boot_tuple (da_cons (d_v 2) da_nil))))))) (fun ds M Q h => ?_)
  obtain ⟨a, b, rfl, ts, fl, rfl, rfl, hl, h4, h⟩ := h
  walk_at "st"
  intro q hq
  walk_at "st"
  intro _
  refine ⟨by omega, by omega, fun _ => ?_⟩
  refine for_ind (fun items m1 M1 => ∃ (k : Nat) (acc : List St) (x3 x4 : Option D), items = rangeD (k : Int) (ts.length - k) ∧ k ≤ ts.length ∧ M1 = mput M q (.lst (acc.map stD)) ∧ spb [] ts fl = spb acc (ts.drop k) (fl.drop k) ∧ acc.length ≤ k ∧ m1 = [some (.lst (ts.map D.int)), some (.lst (fl.map D.bl)), some (.ref q), x3, x4]) ?_ ?_ _ _ _ ⟨0, [], _, _, by simp, by omega, rfl, rfl, by simp, rfl⟩
  · rintro m1 M1 ⟨k, acc, x3, x4, hi, hk, rfl, e, _, rfl⟩
    refine ⟨srcV_none, ?_⟩
    have ek : k = ts.length := by
      have := congrArg List.length hi
      simp [rangeD] at this
      omega
    subst ek
    rw [List.drop_length, List.drop_of_length_le (by omega)] at e
    rw [e] at h
    walk_at "rd"
    refine ret_le (MLe.put (.refl M) hq) h
  · rintro z items m1 M1 Cn hC ⟨k, acc, x3, x4, hi, hk, rfl, e, hal, rfl⟩
    refine ⟨srcV_none, ?_⟩
    have hk2 : k < ts.length := by
      cases q : ts.length - k with
      | zero => rw [q] at hi; simp [rangeD] at hi
      | succ n => omega
    rw [show ts.length - k = (ts.length - (k + 1)) + 1 by omega] at hi
    have hr : rangeD (k : Int) ((ts.length - (k + 1)) + 1) = .int k :: rangeD ((k + 1 : Nat) : Int) (ts.length - (k + 1)) := by
      simp [rangeD, List.range_succ_eq_map, Function.comp_def]
      intro a _
      omega
    rw [hr] at hi
    injection hi with h1 h2
    subst h1
    subst h2
    rw [spb_cut k hk2 hl] at e
    have gf : atI (fl.map D.bl) ((k : Nat) : Int) = some (.bl (fl[k]'(by omega))) := by rw [atI_n, List.getElem?_map, List.getElem?_eq_getElem (by omega)]; rfl
    have gt : atI (ts.map D.int) ((k : Nat) : Int) = some (.int (ts.getD k 0)) := by rw [atI_n, List.getElem?_map, List.getElem?_eq_getElem hk2]; simp [hk2]
    have hfl : fl[k]? = some (fl[k]'(by omega)) := List.getElem?_eq_getElem (by omega)
    walk_at "st"
    refine ⟨_, gf, _, rfl, ?_⟩
    split
    · next c =>
      refine fg_of (hC _ _ ⟨k + 1, acc, _, _, rfl, hk2, rfl, ?_, by omega, rfl⟩)
      rw [e, if_neg]
      rw [hfl, c]
      simp
    · next c =>
      have hft : fl[k]? = some true := by
        rw [hfl]
        cases hq2 : fl[k]'(by omega) with
        | true => rfl
        | false => exact absurd hq2 c
      rw [if_pos hft] at e
      walk_at "st"
      refine seq_cut (fun m2 M2 => M2 = mput M q (.lst (acc.map stD)) ∧ m2 = [some (.lst (ts.map D.int)), some (.lst (fl.map D.bl)), some (.ref q), some (.int k), some (oD ts[k + 1]?)]) (fun Cn2 hC2 => ?_) ?_
      · walk_at "s1"
        rw [List.length_map]
        split
        · next c2 =>
          have hk3 : k + 1 < ts.length := by omega
          refine ⟨.int (ts[k + 1]), ?_, hC2 _ _ ⟨rfl, by rw [List.getElem?_eq_getElem hk3]; rfl⟩⟩
          rw [show ((k : Nat) : Int) + 1 = ((k + 1 : Nat) : Int) by omega, atI_n, List.getElem?_map, List.getElem?_eq_getElem hk3]
          rfl
        · next c2 => exact hC2 _ _ ⟨rfl, by rw [List.getElem?_eq_none (by omega)]; rfl⟩
      rintro m2 M2 ⟨rfl, rfl⟩
      have go : ∀ acc2, acc2 = spStep acc (ts.getD k 0) ts[k + 1]? → acc2.length ≤ acc.length + 1 → fg Cn [some (.lst (ts.map D.int)), some (.lst (fl.map D.bl)), some (.ref q), some (.int k), some (oD ts[k + 1]?)] (mput M q (.lst (acc2.map stD))) := fun acc2 e2 el =>
        fg_of (hC _ _ ⟨k + 1, acc2, _, _, rfl, hk2, rfl, by rw [e, e2], by omega, rfl⟩)
      generalize ts[k + 1]? = en at go ⊢
      generalize ts.getD k 0 = t at gt go
      cases el : acc.getLast? with
      | none =>
        obtain rfl := List.getLast?_eq_none_iff.mp el
        walk_at "rd"
        rw [if_neg (by decide)]
        exact ⟨⟨_, rfl⟩, _, gt, _, rfl, by decide, go [(t, en)] rfl (by simp)⟩
      | some l =>
        obtain ⟨pre, rfl⟩ := List.getLast?_eq_some_iff.mp el
        have elast : ((pre ++ [l]).map stD).getLast? = some (stD l) := by simp
        have eix : ixN ((pre ++ [l]).map stD).length (-1) = some pre.length := by
          rw [List.length_map, List.length_append, List.length_singleton]
          simp [ixN]
          omega
        have eset : ∀ t : St, ((pre ++ [l]).map stD).set pre.length (.tup [.int t.1, oD t.2]) = (pre ++ [t]).map stD := fun t => by
          rw [List.map_append, List.map_append, List.set_append_right _ _ (by simp)]
          simp [stD]
        have esp : spStep (pre ++ [l]) t en = if l.2 = some t then pre ++ [(l.1, en)] else pre ++ [l] ++ [(t, en)] := by
          unfold spStep
          rw [el]
          simp
        have eeq : ((oD l.2).eqv (.int t) = true) ↔ l.2 = some t := by
          cases l.2 with
          | none => simp [oD, D.eqv, D.py, PyData.eqv]
          | some x => rw [oD_s, eqv_int]; simp
        walk_at "rd"
        rw [if_pos (by simp)]
        refine ⟨stD l, elast, _, rfl, _, rfl, _, gt, oD_ok _ _, by simp, ?_⟩
        split
        · next c2 =>
          refine ⟨stD l, elast, _, rfl, _, rfl, _, rfl, pre.length, eix, ?_⟩
          rw [eset (l.1, en)]
          exact go _ (by rw [esp, if_pos (eeq.mp c2)]) (by simp)
        · next c2 =>
          refine ⟨⟨_, rfl⟩, _, gt, _, rfl, by rw [List.length_map]; omega, ?_⟩
          have := go (pre ++ [l] ++ [(t, en)]) (by rw [esp, if_neg (fun z => c2 (eeq.mpr z))]) (by simp)
          rw [List.map_append] at this
          exact this
abbrev sp_rest : DSp := ar1 fun a M Q => ∃ ss : List St, a = .tup (ss.map stD) ∧ Can ss ∧ ss.length ≤ 1001 ∧ ∀ rs, Can rs → rs.length ≤ ss.length + 1 → (∀ m, hasS rs m = true ↔ 0 ≤ m ∧ hasS ss m = false) → Q (.tup (rs.map stD)) M
theorem ok_rest (F : Def K mg "rest" s_rest ["span"]) (B : Bi K mg) (I : Im mg)  : Cal P w K mg base 1 "rest" ["span"] sp_rest := by
  have sc := sc_rest
  refine F.cal sc (fun ds M Q h => len1 h) (fun f cdv A outer s H E hr => (ds_cons (ds_set (i := 1) sc.nd rfl (Or.inl rfl) (d_lst da_nil))
    (ds_cons (ds_set (i := 2) sc.nd rfl (Or.inl rfl) d_int)
    (ds_cons (ds_for PassesOwn.never rfl (di_seq (d_v 0)) (dg_tup (n := 2) rfl (dgs_cons (dg_name (i := 3) sc.nd rfl (Or.inl rfl)) (dgs_cons (dg_name (i := 4) sc.nd rfl (Or.inl rfl)) dgs_nil)))
    (ds_cons (ds_if (dt_cmp o_lt (d_v 2) (d_v 3) (nomark _))
    (ds_one (ds_expr (d_mt PySem.F.slot_list_append PySem.F.type_list_append m_append (d_v 1) (da_cons (d_tup (da_cons (d_v 2) (da_cons (d_v 3) da_nil))) da_nil))))
    ds_nil)
    (ds_cons (ds_if (dt_cmp o_is (d_v 4) d_non (nomark _))
    (ds_one (ds_ret (d_ct c_tuple rfl B.b_tuple boot_tuple (da_cons (d_v 1) da_nil))))
    ds_nil)
    (ds_one (ds_set (i := 2) sc.nd rfl (Or.inl rfl) (d_v 4))))))
    (ds_cons (ds_expr (d_mt PySem.F.slot_list_append PySem.F.type_list_append m_append (d_v 1) (da_cons (d_tup (da_cons (d_v 2) (da_cons d_non da_nil))) da_nil)))
    (ds_one (ds_ret (d_ct c_tuple rfl B.b_tuple boot_tuple (da_cons (d_v 1) da_nil))))))))) (fun ds M Q h => ?_)
  obtain ⟨a, rfl, ss, rfl, hc, hl, h⟩ := h
  walk_at "st"
  intro p hp
  walk_at "st"
  walk_at "st"
  intro _
  refine for_ind (fun items m1 M1 => ∃ (rest dn acc : List St) (b : Int) (x3 x4 : Option D), items = rest.map stD ∧ dn ++ rest = ss ∧ RestI dn acc b ∧ acc.length ≤ dn.length ∧ (∀ s ∈ rest, b ≤ s.1) ∧ M1 = mput M p (.lst (acc.map stD)) ∧ m1 = [some (.tup (ss.map stD)), some (.ref p), some (.int b), x3, x4]) ?_ ?_ _ _ _ ⟨ss, [], [], 0, _, _, rfl, rfl, rest_nil, by simp, fun s hs => (hc.ok s hs).1, rfl, rfl⟩
  · rintro m1 M1 ⟨rest, dn, acc, b, x3, x4, hi, hd, I, hal, hbr, rfl, rfl⟩
    refine ⟨srcV_none, ?_⟩
    cases rest with
    | cons x r => cases hi
    | nil =>
      rw [List.append_nil] at hd
      subst hd
      obtain ⟨c1, c2⟩ := rest_end I
      walk_at "rd"
      refine ⟨⟨_, rfl⟩, _, rfl, by rw [List.length_map]; omega, ret_le (MLe.put (.refl M) hp) ?_⟩
      have := h _ c1 (by rw [List.length_append, List.length_singleton]; omega) c2
      rw [List.map_append] at this
      exact this
  · rintro z items m1 M1 Cn hC ⟨rest, dn, acc, b, x3, x4, hi, hd, I, hal, hbr, rfl, rfl⟩
    refine ⟨srcV_none, ?_⟩
    cases rest with
    | nil => cases hi
    | cons s rest =>
      rw [List.map_cons] at hi
      injection hi with h1 h2
      subst h1
      subst h2
      have hso := hc.ok s (by rw [← hd]; simp)
      have hsb := hbr s (by simp)
      have hdl : dn.length + 1 + rest.length = ss.length := by rw [← hd, List.length_append, List.length_cons]; omega
      have hml : (restMid acc b s).length ≤ acc.length + 1 := by unfold restMid; split <;> simp
      have hap : ∀ y ∈ rest, apart s y := by
        have := hc.ap
        rw [← hd] at this
        exact (List.pairwise_cons.mp (List.pairwise_append.mp this).2.1).1
      walk_at "s1"
      refine seq_cut (fun m2 M2 => M2 = mput M p (.lst ((restMid acc b s).map stD)) ∧ m2 = [some (.tup (ss.map stD)), some (.ref p), some (.int b), some (.int s.1), some (oD s.2)]) (fun Cn2 hC2 => ?_) ?_
      · walk_at "s1"
        split
        · next c =>
          refine ⟨⟨_, rfl⟩, _, rfl, by rw [List.length_map]; omega, hC2 _ _ ⟨?_, rfl⟩⟩
          unfold restMid
          rw [if_pos c, List.map_append]
          rfl
        · next c =>
          refine hC2 _ _ ⟨?_, rfl⟩
          unfold restMid
          rw [if_neg c]
      rintro _ _ ⟨rfl, rfl⟩
      cases q : s.2 with
      | none =>
        obtain ⟨c1, c2⟩ := rest_none I hso hsb q
        have e : rest = [] := by
          cases rest with
          | nil => rfl
          | cons y r =>
            obtain ⟨x, x1, _⟩ := hap y (by simp)
            rw [q] at x1
            cases x1
        subst e
        rw [hd] at c2
        walk_at "rd"
        exact ret_le (MLe.put (.refl M) hp) (h _ c1 (by omega) c2)
      | some e =>
        walk_at "rd"
        refine fg_of (hC _ _ ⟨rest, dn ++ [s], restMid acc b s, e, _, _, rfl, by rw [← hd]; simp, rest_some I hso hsb q, by rw [List.length_append, List.length_singleton]; omega, fun y hy => ?_, rfl, rfl⟩)
        obtain ⟨x, x1, x2⟩ := hap y hy
        rw [q] at x1
        cases x1
        omega

abbrev sp_earlier_end : DSp := ar2 fun a b M Q => ∃ x y : Option Int, a = oD x ∧ b = oD y ∧ Q (oD (minE x y)) M
theorem ok_earlier_end (F : Def K mg "earlier_end" s_earlier_end ["end", "other"]) (B : Bi K mg) (I : Im mg)  : Cal P w K mg base 1 "earlier_end" ["end", "other"] sp_earlier_end := by
  have sc := sc_earlier_end
  refine F.cal sc (fun ds M Q h => len2 h) (fun f cdv A outer s H E hr => (ds_cons (ds_if (dt_cmp o_is (d_v 0) d_non (nomark _))
    (ds_one (ds_ret (d_v 1)))
    ds_nil)
    (ds_cons (ds_if (dt_cmp o_is (d_v 1) d_non (nomark _))
    (ds_one (ds_ret (d_v 0)))
    ds_nil)
    (ds_one (ds_ret (d_cb (c_min2 rfl) rfl B.b_min boot_min (da_cons (d_v 0) (da_cons (d_v 1) da_nil)))))))) (fun ds M Q h => ?_)
  obtain ⟨a, b, rfl, x, y, rfl, rfl, h⟩ := h
  cases x with
  | none =>
    walk_at "rd"
    exact ret_of h
  | some x =>
    cases y with
    | none =>
      walk_at "rd"
      exact ret_of h
    | some y =>
      walk_at "rd"
      exact ret_of h
theorem isN_oD (x : Option Int) : (oD x).isN = x.isNone := by cases x <;> rfl
theorem eqv_oD (x y : Option Int) : D.eqv (oD x) (oD y) = decide (x = y) := by
  cases x <;> cases y <;> simp [oD, D.eqv, D.py, PyData.eqv, Bool.beq_eq_decide_eq]
theorem can_drop {ss : List St} (h : Can ss) (i : Nat) : Can (ss.drop i) := ⟨fun s hs => h.ok s (List.mem_of_mem_drop hs), h.ap.drop⟩
local macro_rules | `(tactic| walk_at "rd") => `(tactic| simp only [dSeq, dSet, dIf, dTst, dOp, dVar, dC, dRet, dRetN, dNext, dDrop, dBreak, dCont, dAnd, dOr, dNot, dAndV, dOrV, dNotV, dIfE, dTup, dLstF, dLst, dCons, dNil, dCB, dCall, dUn, dNegI, dI, dI0, dEq, dNe, dIs, dIsNot, dIn, dNotIn, dIx, isN_non, isN_bl, isN_int, isN_str, isN_tup, isN_lst, isN_rf, DL.rLen, rInt, rAbs, rMax2, rMin2, DL.rGcd, rTuple, rList, rIs, rIsT, ar0, ar1, ar2, ar3, ar4, ar5, ar6, ar7, ar8, dEnds, dMt, dMt0, mAppend, mPop, mReverse, dSetL, dPut, dAsg, dgName, dgTup, dgCons, dgNil, dFor, diSeq, diRng1, diRng2, dLcF, dLc, dwipe, dFz, dstart, List.map_cons, List.map_nil, List.length_cons, List.length_nil, List.cons_append, List.nil_append, List.append_nil, List.replicate, Nat.reduceAdd, Nat.reduceSub, Nat.reduceLeDiff, Int.reduceNeg, List.set_cons_zero, List.set_cons_succ, List.getElem?_cons_zero, List.getElem?_cons_succ, Option.some.injEq, exists_eq_left', exists_eq_left, exists_eq_right, exists_eq, exists_and_left, exists_and_right, D.int.injEq, D.bl.injEq, D.str.injEq, D.tup.injEq, D.lst.injEq, D.ref.injEq, D.ty.injEq, D.dct.injEq, List.cons.injEq, and_assoc, and_true, true_and, and_self, reduceCtorEq, false_and, and_false, if_true, if_false, if_pos, ite_true, ite_false, Bool.false_eq_true, decide_eq_true_eq, Bool.not_eq_true', decide_eq_false_iff_not, Bool.not_true, Bool.not_false, decide_true, decide_false, eqv_int, eqv_str, eqv_bl, dOk_int, dOk_bl, dOk_non, dOk_tup, dOk_lst, dOk_str, List.all_cons, List.all_nil, Bool.and_true, Bool.true_and, Bool.and_self, dItems_tup, dItems_lst, dItems_rf, CMulA, CDivA, CPowA, Int.reduceLT, Int.reduceLE, Int.reducePow, Int.reduceToNat, Int.reduceMul, Int.reduceAdd, Int.reduceSub, Nat.reducePow, true_or, or_true, ne_eq, not_false_eq_true, not_true_eq_false, dAt_tup, dAt_lst, dAt_rf, dLenOf_tup, dLenOf_lst, dLenOf_rf, dLenOf_str, dTyN_non, dTyN_bl, dTyN_int, dTyN_str, dTyN_tup, dTyN_lst, dTyN_dct, dTyN_rf, dIntOf_int, dIntOf_bl, knownT, subT, atI_0, atI_1, atI_2, atI_3, atI_4, atI_5, atI_neg1, mput_same, mput_mput, eqv_non, tyNames, Option.map_some, String.reduceBEq, Bool.or_true, Bool.true_or, Bool.or_false, Bool.false_or, Bool.false_and, Bool.and_false, beq_self_eq_true, BEq.rfl, List.any_cons, List.any_nil, sizeLine_eq, rLenB, Bool.true_eq_false, implies_true, Nat.zero_le, Bool.or_self, String.reduceEq, dAdd_ii, dAdd_ss, dAdd_tt, dMulA_ii, dMulA_si, dIxS_str, dIxS_tup, dIxS_lst, dIxS_ref, dCat, dCatF, dRep, dSl, dNoP, dPart, dJoin, mExtend, mIndex, rAnyL, rAllL, rSumL, rMaxL, rMinL, dLRg, diEnum, rSortD, dLc2F, dLc2, dYes, diEnumT, dSlS, rSortK, dFzS, dTupRev, diRev, diZip, dMulT, zipD, dDc, dDGet1, dLtD, dGtD, rListK, dUpper, diStr, dInS, dSortL, dSortSet, dStar, rIntS, rStrI, dKIx, dKIn, dKNotIn, rLenK, dKNew, dFzK, dFzD, dKPut, diKeys, diVals, diItems, mInsert, mPopAt, dKGet1, dKGet2, dKc, dDict_dct, dDict_put, isKb_int, isKb_str, true_implies, false_implies, dDIx, dDIn, dDNotIn, dSetD, dDNew, dSortLen, sortLenB, rSortO, dMIx, dMIn, dMNotIn, dMGet2, diMItems, diMKeys, dFzM, dFzMS, dDSetDf, dDGet2, items_enE, oD_n, oD_s, stD, isN_oD, oD_ok, eqv_oD])
local macro_rules | `(tactic| walk_at "st") => `(tactic| (refine seq_i ?_; simp only [dSet, dIf, dTst, dOp, dVar, dC, dRet, dRetN, dNext, dDrop, dBreak, dCont, dAnd, dOr, dNot, dAndV, dOrV, dNotV, dIfE, dTup, dLstF, dLst, dCons, dNil, dCB, dCall, dUn, dNegI, dI, dI0, dEq, dNe, dIs, dIsNot, dIn, dNotIn, dIx, isN_non, isN_bl, isN_int, isN_str, isN_tup, isN_lst, isN_rf, DL.rLen, rInt, rAbs, rMax2, rMin2, DL.rGcd, rTuple, rList, rIs, rIsT, ar0, ar1, ar2, ar3, ar4, ar5, ar6, ar7, ar8, dEnds, dMt, dMt0, mAppend, mPop, mReverse, dSetL, dPut, dAsg, dgName, dgTup, dgCons, dgNil, dFor, diSeq, diRng1, diRng2, dLcF, dLc, dwipe, dFz, dstart, List.map_cons, List.map_nil, List.length_cons, List.length_nil, List.cons_append, List.nil_append, List.append_nil, List.replicate, Nat.reduceAdd, Nat.reduceSub, Nat.reduceLeDiff, Int.reduceNeg, List.set_cons_zero, List.set_cons_succ, List.getElem?_cons_zero, List.getElem?_cons_succ, Option.some.injEq, exists_eq_left', exists_eq_left, exists_eq_right, exists_eq, exists_and_left, exists_and_right, D.int.injEq, D.bl.injEq, D.str.injEq, D.tup.injEq, D.lst.injEq, D.ref.injEq, D.ty.injEq, D.dct.injEq, List.cons.injEq, and_assoc, and_true, true_and, and_self, reduceCtorEq, false_and, and_false, if_true, if_false, if_pos, ite_true, ite_false, Bool.false_eq_true, decide_eq_true_eq, Bool.not_eq_true', decide_eq_false_iff_not, Bool.not_true, Bool.not_false, decide_true, decide_false, eqv_int, eqv_str, eqv_bl, dOk_int, dOk_bl, dOk_non, dOk_tup, dOk_lst, dOk_str, List.all_cons, List.all_nil, Bool.and_true, Bool.true_and, Bool.and_self, dItems_tup, dItems_lst, dItems_rf, CMulA, CDivA, CPowA, Int.reduceLT, Int.reduceLE, Int.reducePow, Int.reduceToNat, Int.reduceMul, Int.reduceAdd, Int.reduceSub, Nat.reducePow, true_or, or_true, ne_eq, not_false_eq_true, not_true_eq_false, dAt_tup, dAt_lst, dAt_rf, dLenOf_tup, dLenOf_lst, dLenOf_rf, dLenOf_str, dTyN_non, dTyN_bl, dTyN_int, dTyN_str, dTyN_tup, dTyN_lst, dTyN_dct, dTyN_rf, dIntOf_int, dIntOf_bl, knownT, subT, atI_0, atI_1, atI_2, atI_3, atI_4, atI_5, atI_neg1, mput_same, mput_mput, eqv_non, tyNames, Option.map_some, String.reduceBEq, Bool.or_true, Bool.true_or, Bool.or_false, Bool.false_or, Bool.false_and, Bool.and_false, beq_self_eq_true, BEq.rfl, List.any_cons, List.any_nil, sizeLine_eq, rLenB, Bool.true_eq_false, implies_true, Nat.zero_le, Bool.or_self, String.reduceEq, dAdd_ii, dAdd_ss, dAdd_tt, dMulA_ii, dMulA_si, dIxS_str, dIxS_tup, dIxS_lst, dIxS_ref, dCat, dCatF, dRep, dSl, dNoP, dPart, dJoin, mExtend, mIndex, rAnyL, rAllL, rSumL, rMaxL, rMinL, dLRg, diEnum, rSortD, dLc2F, dLc2, dYes, diEnumT, dSlS, rSortK, dFzS, dTupRev, diRev, diZip, dMulT, zipD, dDc, dDGet1, dLtD, dGtD, rListK, dUpper, diStr, dInS, dSortL, dSortSet, dStar, rIntS, rStrI, dKIx, dKIn, dKNotIn, rLenK, dKNew, dFzK, dFzD, dKPut, diKeys, diVals, diItems, mInsert, mPopAt, dKGet1, dKGet2, dKc, dDict_dct, dDict_put, isKb_int, isKb_str, true_implies, false_implies, dDIx, dDIn, dDNotIn, dSetD, dDNew, dSortLen, sortLenB, rSortO, dMIx, dMIn, dMNotIn, dMGet2, diMItems, diMKeys, dFzM, dFzMS, dDSetDf, dDGet2, items_enE, oD_n, oD_s, stD, isN_oD, oD_ok, eqv_oD]))
local macro_rules | `(tactic| walk_at "p") => `(tactic| simp only [dRet, dOp, dVar, dCall, dCB, dCons, dNil, ar0, ar1, ar2, ar3, ar4, ar5, DL.rLen, dIx, dEnds, dstart, List.map_cons, List.map_nil, List.length_cons, List.length_nil, List.cons_append, List.nil_append, List.replicate, Nat.reduceAdd, Nat.reduceSub, Nat.reduceLeDiff, List.getElem?_cons_zero, List.getElem?_cons_succ, Option.some.injEq, exists_eq_left', exists_eq_left, exists_and_left, exists_and_right, List.cons.injEq, and_assoc, and_true, true_and, D.ref.injEq, D.int.injEq])
local macro_rules | `(tactic| walk_at "s1") => `(tactic| simp only [dSet, dIf, dTst, dOp, dVar, dC, dRet, dRetN, dNext, dDrop, dBreak, dCont, dAnd, dOr, dNot, dAndV, dOrV, dNotV, dIfE, dTup, dLstF, dLst, dCons, dNil, dCB, dCall, dUn, dNegI, dI, dI0, dEq, dNe, dIs, dIsNot, dIn, dNotIn, dIx, isN_non, isN_bl, isN_int, isN_str, isN_tup, isN_lst, isN_rf, DL.rLen, rInt, rAbs, rMax2, rMin2, DL.rGcd, rTuple, rList, rIs, rIsT, ar0, ar1, ar2, ar3, ar4, ar5, ar6, ar7, ar8, dEnds, dMt, dMt0, mAppend, mPop, mReverse, dSetL, dPut, dAsg, dgName, dgTup, dgCons, dgNil, dFor, diSeq, diRng1, diRng2, dLcF, dLc, dwipe, dFz, dstart, List.map_cons, List.map_nil, List.length_cons, List.length_nil, List.cons_append, List.nil_append, List.append_nil, List.replicate, Nat.reduceAdd, Nat.reduceSub, Nat.reduceLeDiff, Int.reduceNeg, List.set_cons_zero, List.set_cons_succ, List.getElem?_cons_zero, List.getElem?_cons_succ, Option.some.injEq, exists_eq_left', exists_eq_left, exists_eq_right, exists_eq, exists_and_left, exists_and_right, D.int.injEq, D.bl.injEq, D.str.injEq, D.tup.injEq, D.lst.injEq, D.ref.injEq, D.ty.injEq, D.dct.injEq, List.cons.injEq, and_assoc, and_true, true_and, and_self, reduceCtorEq, false_and, and_false, if_true, if_false, if_pos, ite_true, ite_false, Bool.false_eq_true, decide_eq_true_eq, Bool.not_eq_true', decide_eq_false_iff_not, Bool.not_true, Bool.not_false, decide_true, decide_false, eqv_int, eqv_str, eqv_bl, dOk_int, dOk_bl, dOk_non, dOk_tup, dOk_lst, dOk_str, List.all_cons, List.all_nil, Bool.and_true, Bool.true_and, Bool.and_self, dItems_tup, dItems_lst, dItems_rf, CMulA, CDivA, CPowA, Int.reduceLT, Int.reduceLE, Int.reducePow, Int.reduceToNat, Int.reduceMul, Int.reduceAdd, Int.reduceSub, Nat.reducePow, true_or, or_true, ne_eq, not_false_eq_true, not_true_eq_false, dAt_tup, dAt_lst, dAt_rf, dLenOf_tup, dLenOf_lst, dLenOf_rf, dLenOf_str, dTyN_non, dTyN_bl, dTyN_int, dTyN_str, dTyN_tup, dTyN_lst, dTyN_dct, dTyN_rf, dIntOf_int, dIntOf_bl, knownT, subT, atI_0, atI_1, atI_2, atI_3, atI_4, atI_5, atI_neg1, mput_same, mput_mput, eqv_non, tyNames, Option.map_some, String.reduceBEq, Bool.or_true, Bool.true_or, Bool.or_false, Bool.false_or, Bool.false_and, Bool.and_false, beq_self_eq_true, BEq.rfl, List.any_cons, List.any_nil, sizeLine_eq, rLenB, Bool.true_eq_false, implies_true, Nat.zero_le, Bool.or_self, String.reduceEq, dAdd_ii, dAdd_ss, dAdd_tt, dMulA_ii, dMulA_si, dIxS_str, dIxS_tup, dIxS_lst, dIxS_ref, dCat, dCatF, dRep, dSl, dNoP, dPart, dJoin, mExtend, mIndex, rAnyL, rAllL, rSumL, rMaxL, rMinL, dLRg, diEnum, rSortD, dLc2F, dLc2, dYes, diEnumT, dSlS, rSortK, dFzS, dTupRev, diRev, diZip, dMulT, zipD, dDc, dDGet1, dLtD, dGtD, rListK, dUpper, diStr, dInS, dSortL, dSortSet, dStar, rIntS, rStrI, dKIx, dKIn, dKNotIn, rLenK, dKNew, dFzK, dFzD, dKPut, diKeys, diVals, diItems, mInsert, mPopAt, dKGet1, dKGet2, dKc, dDict_dct, dDict_put, isKb_int, isKb_str, true_implies, false_implies, dDIx, dDIn, dDNotIn, dSetD, dDNew, dSortLen, sortLenB, rSortO, dMIx, dMIn, dMNotIn, dMGet2, diMItems, diMKeys, dFzM, dFzMS, dDSetDf, dDGet2, items_enE, oD_n, oD_s, stD, isN_oD, oD_ok, eqv_oD])
abbrev sp_met : DSp := ar2 fun a b M Q => ∃ A B : List St, a = .tup (A.map stD) ∧ b = .tup (B.map stD) ∧ Can A ∧ Can B ∧ A.length ≤ 1000 ∧ B.length ≤ 1000 ∧ ∀ rs, Can rs → (∀ m, hasS rs m = true ↔ hasS A m = true ∧ hasS B m = true) → Q (.tup (rs.map stD)) M
theorem ok_met (F : Def K mg "met" s_met ["span", "other"]) (B : Bi K mg) (I : Im mg) (c_earlier_end : Cal P w K mg base 1 "earlier_end" ["end", "other"] sp_earlier_end) : Cal P w K mg base 2 "met" ["span", "other"] sp_met := by
  have sc := sc_met
  refine F.cal sc (fun ds M Q h => len2 h) (fun f cdv A outer s H E hr => (ds_cons (ds_set (i := 2) sc.nd rfl (Or.inl rfl) (d_lst da_nil))
    (ds_cons (ds_set (i := 3) sc.nd rfl (Or.inl rfl) d_int)
    (ds_cons (ds_set (i := 4) sc.nd rfl (Or.inl rfl) d_int)
    (ds_cons (ds_while PassesOwn.never (dt_w (dw_and (dt_cmp o_lt (d_v 3) (d_cb c_len rfl B.b_len boot_len (da_cons (d_v 0) da_nil)) (nomark _)) (dw_and1 (dt_cmp o_lt (d_v 4) (d_cb c_len rfl B.b_len boot_len (da_cons (d_v 1) da_nil)) (nomark _)))))
    (ds_cons (ds_set (i := 5) sc.nd rfl (Or.inl rfl) (d_cb (c_max2 rfl) rfl B.b_max boot_max (da_cons (d_ix x_ix (d_ix x_ix (d_v 0) (d_v 3) (fun _ _ => rfl)) d_int (fun _ _ => rfl)) (da_cons (d_ix x_ix (d_ix x_ix (d_v 1) (d_v 4) (fun _ _ => rfl)) d_int (fun _ _ => rfl)) da_nil))))
    (ds_cons (ds_set (i := 6) sc.nd rfl (Or.inl rfl) (d_call c_earlier_end (hr.mono (by first | decide | omega)) rfl (da_cons (d_ix x_ix (d_ix x_ix (d_v 0) (d_v 3) (fun _ _ => rfl)) d_int (fun _ _ => rfl)) (da_cons (d_ix x_ix (d_ix x_ix (d_v 1) (d_v 4) (fun _ _ => rfl)) d_int (fun _ _ => rfl)) da_nil))))
    (ds_cons (ds_if (dt_w (dw_or (dt_cmp o_is (d_v 6) d_non (nomark _)) (dw_or1 (dt_cmp o_lt (d_v 5) (d_v 6) (nomark _)))))
    (ds_one (ds_expr (d_mt PySem.F.slot_list_append PySem.F.type_list_append m_append (d_v 2) (da_cons (d_tup (da_cons (d_v 5) (da_cons (d_v 6) da_nil))) da_nil))))
    ds_nil)
    (ds_one (ds_if (dt_cmp (o_eq (hu_eq hr)) (d_ix x_ix (d_ix x_ix (d_v 0) (d_v 3) (fun _ _ => rfl)) d_int (fun _ _ => rfl)) (d_v 6) (nomark _))
    (ds_one (ds_set (i := 3) sc.nd rfl (Or.inl rfl) (d_op o_add (d_v 3) d_int)))
    (ds_one (ds_set (i := 4) sc.nd rfl (Or.inl rfl) (d_op o_add (d_v 4) d_int)))))))))
    (ds_one (ds_ret (d_ct c_tuple rfl B.b_tuple boot_tuple (da_cons (d_v 2) da_nil))))))))) (fun ds M Q h => ?_)
  obtain ⟨a, b, rfl, ss, ts, rfl, rfl, hs, ht, hsl, htl, h⟩ := h
  walk_at "st"
  intro q hq
  walk_at "st"
  walk_at "st"
  refine ⟨fun n m1 M1 => ∃ (i j : Nat) (acc : List St) (x5 x6 : Option D), n = (ss.length - i) + (ts.length - j) ∧ i ≤ ss.length ∧ j ≤ ts.length ∧ acc.length ≤ i + j ∧ MetI ss ts (ss.drop i) (ts.drop j) acc ∧ M1 = mput M q (.lst (acc.map stD)) ∧
    m1 = [some (.tup (ss.map stD)), some (.tup (ts.map stD)), some (.ref q), some (.int i), some (.int j), x5, x6], ⟨_, 0, 0, [], _, _, rfl, Nat.zero_le _, Nat.zero_le _, Nat.le_refl _, met_start hs ht, rfl, rfl⟩, ?_⟩
  rintro n m1 M1 ⟨i, j, acc, x5, x6, hn, hi, hj, hal, I, rfl, rfl⟩
  have fin : (ss.drop i = [] ∨ ts.drop j = []) → Q (.tup (acc.map stD)) M := fun e => h acc I.can (met_end I e)
  walk_at "s1"
  rw [List.length_map, List.length_map]
  split
  · next hi2 =>
    split
    · next hj2 =>
      have hi3 : i < ss.length := by omega
      have hj3 : j < ts.length := by omega
      have di : ss.drop i = ss[i] :: ss.drop (i + 1) := List.drop_eq_getElem_cons hi3
      have dj : ts.drop j = ts[j] :: ts.drop (j + 1) := List.drop_eq_getElem_cons hj3
      have ai := at_st hi3
      have aj := at_st hj3
      rw [di, dj] at I
      generalize ss[i] = s at ai I di
      generalize ts[j] = u at aj I dj
      walk_at "st"
      refine ⟨_, ai, _, rfl, _, rfl, _, aj, _, rfl, _, rfl, s.1, rfl, u.1, rfl, ?_⟩
      walk_at "st"
      refine ⟨_, ai, _, rfl, _, rfl, _, aj, _, rfl, _, rfl, s.2, rfl, u.2, rfl, ?_⟩
      have emx : (if u.1 > s.1 then u.1 else s.1) = mx s.1 u.1 := rfl
      rw [emx]
      have hml : (metStep acc s u).length ≤ acc.length + 1 := by unfold metStep; split <;> simp
      refine seq_cut (fun m2 M2 => M2 = mput M q (.lst ((metStep acc s u).map stD)) ∧ m2 = [some (.tup (ss.map stD)), some (.tup (ts.map stD)), some (.ref q), some (.int i), some (.int j), some (.int (mx s.1 u.1)), some (oD (minE s.2 u.2))]) (fun Cn hC => ?_) ?_
      · have hyes : ltEb (mx s.1 u.1) (minE s.2 u.2) = true → (∃ xs, acc.map stD = xs) ∧ ∃ x, DO.lst (acc.map stD) = DO.lst x ∧ x.length < 16777216 ∧ Cn [some (.tup (ss.map stD)), some (.tup (ts.map stD)), some (.ref q), some (.int i), some (.int j), some (.int (mx s.1 u.1)), some (oD (minE s.2 u.2))] (mput M q (.lst (x ++ [.tup [.int (mx s.1 u.1), oD (minE s.2 u.2)]]))) := fun o =>
          ⟨⟨_, rfl⟩, _, rfl, by rw [List.length_map]; omega, hC _ _ ⟨by unfold metStep; rw [if_pos o, List.map_append]; rfl, rfl⟩⟩
        have hno : ¬ ltEb (mx s.1 u.1) (minE s.2 u.2) = true → Cn [some (.tup (ss.map stD)), some (.tup (ts.map stD)), some (.ref q), some (.int i), some (.int j), some (.int (mx s.1 u.1)), some (oD (minE s.2 u.2))] (mput M q (.lst (acc.map stD))) := fun o => hC _ _ ⟨by unfold metStep; rw [if_neg o], rfl⟩
        walk_at "s1"
        cases e : minE s.2 u.2 with
        | none =>
          rw [e] at hyes
          rw [if_pos (show (none : Option Int).isNone = true from rfl)]
          exact hyes rfl
        | some x =>
          rw [e] at hyes hno
          rw [if_neg (by simp)]
          refine ⟨x, rfl, ?_⟩
          split
          · next o => exact hyes (decide_eq_true o)
          · next o => exact hno (fun z => o (of_decide_eq_true z))
      · rintro m2 M2 ⟨rfl, rfl⟩
        walk_at "rd"
        refine ⟨_, ai, _, rfl, _, rfl, oD_ok _ _, ?_⟩
        rw [eqv_oD]
        split
        · next e =>
          have e' : minE s.2 u.2 = s.2 := (of_decide_eq_true e).symm
          refine fg_of ⟨_, by omega, i + 1, j, rfl, by omega, hj, metStep acc s u, by omega, by rw [dj]; exact met_left I e', rfl, _, _, by rw [show (((i + 1 : Nat)) : Int) = (i : Int) + 1 by omega]⟩
        · next e =>
          have e' : minE s.2 u.2 ≠ s.2 := fun z => e (decide_eq_true z.symm)
          refine fg_of ⟨_, by omega, i, j + 1, rfl, hi, by omega, metStep acc s u, by omega, by rw [di]; exact met_right I e', rfl, _, _, by rw [show (((j + 1 : Nat)) : Int) = (j : Int) + 1 by omega]⟩
    · next hj2 =>
      have f := fin (.inr (List.drop_of_length_le (by omega)))
      exact ret_le (MLe.put (.refl M) hq) f
  · next hi2 =>
    have f := fin (.inl (List.drop_of_length_le (by omega)))
    exact ret_le (MLe.put (.refl M) hq) f
abbrev sp_without : DSp := ar2 fun a b M Q => ∃ A B : List St, a = .tup (A.map stD) ∧ b = .tup (B.map stD) ∧ Can A ∧ Can B ∧ A.length ≤ 900 ∧ B.length ≤ 900 ∧ ∀ rs, Can rs → (∀ m, hasS rs m = true ↔ hasS A m = true ∧ hasS B m = false) → Q (.tup (rs.map stD)) M
theorem ok_without (F : Def K mg "without" s_without ["span", "other"]) (B : Bi K mg) (I : Im mg) (c_met : Cal P w K mg base 2 "met" ["span", "other"] sp_met) (c_rest : Cal P w K mg base 1 "rest" ["span"] sp_rest) : Cal P w K mg base 3 "without" ["span", "other"] sp_without := by
  have sc := sc_without
  refine F.cal sc (fun ds M Q h => len2 h) (fun f cdv A outer s H E hr => (ds_one (ds_ret (d_call c_met (hr.mono (by first | decide | omega)) rfl (da_cons (d_v 0) (da_cons (d_call c_rest (hr.mono (by first | decide | omega)) rfl (da_cons (d_v 1) da_nil)) da_nil)))))) (fun ds M Q h => ?_)
  obtain ⟨a, b, rfl, A, B, rfl, rfl, ha, hb, hla, hlb, h⟩ := h
  walk_at "rd"
  refine ⟨B, rfl, hb, by omega, fun r1 h1 l1 m1 => ⟨A, rfl, r1, rfl, ha, h1, by omega, by omega, fun r2 h2 m2 => ret_of (h r2 h2 fun m => ?_)⟩⟩
  rw [m2, m1]
  exact ⟨fun k => ⟨k.1, k.2.2⟩, fun k => ⟨k.1, has_nn ha k.1, k.2⟩⟩

abbrev sp_has : DSp := ar2 fun a b M Q => ∃ (ss : List St) (i : Int), a = .tup (ss.map stD) ∧ b = .int i ∧ Can ss ∧ Q (.bl (hasS ss i)) M
theorem ok_has (F : Def K mg "has" s_has ["span", "moment"]) (B : Bi K mg) (I : Im mg)  : Cal P w K mg base 1 "has" ["span", "moment"] sp_has := by
  have sc := sc_has
  refine F.cal sc (fun ds M Q h => len2 h) (fun f cdv A outer s H E hr => (ds_cons (ds_for PassesOwn.never rfl (di_seq (d_v 0)) (dg_tup (n := 2) rfl (dgs_cons (dg_name (i := 2) sc.nd rfl (Or.inl rfl)) (dgs_cons (dg_name (i := 3) sc.nd rfl (Or.inl rfl)) dgs_nil)))
    (ds_cons (ds_if (dt_cmp o_lt (d_v 1) (d_v 2) (nomark _))
    (ds_one (ds_ret d_bl))
    ds_nil)
    (ds_one (ds_if (dt_w (dw_or (dt_cmp o_is (d_v 3) d_non (nomark _)) (dw_or1 (dt_cmp o_lt (d_v 1) (d_v 3) (nomark _)))))
    (ds_one (ds_ret d_bl))
    ds_nil))))
    (ds_one (ds_ret d_bl)))) (fun ds M Q h => ?_)
  obtain ⟨a, b, rfl, ss, i, rfl, rfl, hc, h⟩ := h
  walk_at "st"
  intro _
  refine for_ind (fun items m1 M1 => ∃ (rest : List St) (x2 x3 : Option D), items = rest.map stD ∧ M1 = M ∧ Can rest ∧ hasS ss i = hasS rest i ∧ m1 = [some (.tup (ss.map stD)), some (.int i), x2, x3]) ?_ ?_ _ _ _ ⟨ss, _, _, rfl, rfl, hc, rfl, rfl⟩
  · rintro m1 M1 ⟨rest, x2, x3, hi, rfl, _, e, rfl⟩
    refine ⟨srcV_none, ?_⟩
    cases rest with
    | cons x r => cases hi
    | nil =>
      rw [e] at h
      walk_at "rd"
      exact ret_of h
  · rintro z items m1 M1 Cn hC ⟨rest, x2, x3, hi, rfl, hcr, e, rfl⟩
    refine ⟨srcV_none, ?_⟩
    cases rest with
    | nil => cases hi
    | cons s rest =>
      rw [List.map_cons] at hi
      injection hi with h1 h2
      subst h1
      subst h2
      obtain ⟨s1, s2, s3⟩ := can_cons hcr
      rw [hasS_cons] at e
      have no : inS s i = false → fg Cn [some (.tup (ss.map stD)), some (.int i), some (.int s.1), some (oD s.2)] M1 := fun q => fg_of (hC _ _ ⟨rest, _, _, rfl, rfl, s3, by rw [e, q, Bool.false_or], rfl⟩)
      have yes : inS s i = true → DL.ret Q (.bl true) M1 := fun q => ret_of (by rw [e, q, Bool.true_or] at h; exact h)
      have early : i < s.1 → DL.ret Q (.bl false) M1 := fun q => ret_of (by
        have e1 : inS s i = false := inS_false fun k => by omega
        have e2 : hasS rest i = false := by
          cases c : hasS rest i with
          | false => rfl
          | true =>
            obtain ⟨t, ht, t1, _⟩ := hasS_iff.mp c
            obtain ⟨x, x1, x2⟩ := s2 t ht
            have := s1.2 x x1
            omega
        rw [e, e1, e2] at h
        exact h)
      clear hC h e
      obtain ⟨sb, se⟩ := s
      unfold inS at no yes
      simp only at no yes early ⊢
      cases se with
      | none =>
        walk_at "rd"
        split
        · next c => exact early c
        · next c => exact yes (by simp; omega)
      | some x =>
        walk_at "rd"
        split
        · next c => exact early c
        · next c =>
          split
          · next c2 => exact yes (by simp; omega)
          · next c2 => exact no (by simp; omega)
/-! ### reports, verdicts, what is told -/
/-- number, source, name, row, span -/
abbrev Rp := Int × Str × Str × List D × List St
/-- number, name, row, span -/
abbrev Vd := Int × Str × List D × List St
abbrev spD (ss : List St) : D := .tup (ss.map stD)
def rpD (r : Rp) : D := .tup [.int r.1, .str r.2.1, .str r.2.2.1, .tup r.2.2.2.1, spD r.2.2.2.2]
def vdD (v : Vd) : D := .tup [.int v.1, .str v.2.1, .tup v.2.2.1, spD v.2.2.2]
theorem items_rpD {r : Rp} {M : DM} : dItems (rpD r) M = some [.int r.1, .str r.2.1, .str r.2.2.1, .tup r.2.2.2.1, spD r.2.2.2.2] := rfl
theorem items_vdD {v : Vd} {M : DM} : dItems (vdD v) M = some [.int v.1, .str v.2.1, .tup v.2.2.1, spD v.2.2.2] := rfl
local macro_rules | `(tactic| walk_at "rd") => `(tactic| simp only [dSeq, dSet, dIf, dTst, dOp, dVar, dC, dRet, dRetN, dNext, dDrop, dBreak, dCont, dAnd, dOr, dNot, dAndV, dOrV, dNotV, dIfE, dTup, dLstF, dLst, dCons, dNil, dCB, dCall, dUn, dNegI, dI, dI0, dEq, dNe, dIs, dIsNot, dIn, dNotIn, dIx, isN_non, isN_bl, isN_int, isN_str, isN_tup, isN_lst, isN_rf, DL.rLen, rInt, rAbs, rMax2, rMin2, DL.rGcd, rTuple, rList, rIs, rIsT, ar0, ar1, ar2, ar3, ar4, ar5, ar6, ar7, ar8, dEnds, dMt, dMt0, mAppend, mPop, mReverse, dSetL, dPut, dAsg, dgName, dgTup, dgCons, dgNil, dFor, diSeq, diRng1, diRng2, dLcF, dLc, dwipe, dFz, dstart, List.map_cons, List.map_nil, List.length_cons, List.length_nil, List.cons_append, List.nil_append, List.append_nil, List.replicate, Nat.reduceAdd, Nat.reduceSub, Nat.reduceLeDiff, Int.reduceNeg, List.set_cons_zero, List.set_cons_succ, List.getElem?_cons_zero, List.getElem?_cons_succ, Option.some.injEq, exists_eq_left', exists_eq_left, exists_eq_right, exists_eq, exists_and_left, exists_and_right, D.int.injEq, D.bl.injEq, D.str.injEq, D.tup.injEq, D.lst.injEq, D.ref.injEq, D.ty.injEq, D.dct.injEq, List.cons.injEq, and_assoc, and_true, true_and, and_self, reduceCtorEq, false_and, and_false, if_true, if_false, if_pos, ite_true, ite_false, Bool.false_eq_true, decide_eq_true_eq, Bool.not_eq_true', decide_eq_false_iff_not, Bool.not_true, Bool.not_false, decide_true, decide_false, eqv_int, eqv_str, eqv_bl, dOk_int, dOk_bl, dOk_non, dOk_tup, dOk_lst, dOk_str, List.all_cons, List.all_nil, Bool.and_true, Bool.true_and, Bool.and_self, dItems_tup, dItems_lst, dItems_rf, CMulA, CDivA, CPowA, Int.reduceLT, Int.reduceLE, Int.reducePow, Int.reduceToNat, Int.reduceMul, Int.reduceAdd, Int.reduceSub, Nat.reducePow, true_or, or_true, ne_eq, not_false_eq_true, not_true_eq_false, dAt_tup, dAt_lst, dAt_rf, dLenOf_tup, dLenOf_lst, dLenOf_rf, dLenOf_str, dTyN_non, dTyN_bl, dTyN_int, dTyN_str, dTyN_tup, dTyN_lst, dTyN_dct, dTyN_rf, dIntOf_int, dIntOf_bl, knownT, subT, atI_0, atI_1, atI_2, atI_3, atI_4, atI_5, atI_neg1, mput_same, mput_mput, eqv_non, tyNames, Option.map_some, String.reduceBEq, Bool.or_true, Bool.true_or, Bool.or_false, Bool.false_or, Bool.false_and, Bool.and_false, beq_self_eq_true, BEq.rfl, List.any_cons, List.any_nil, sizeLine_eq, rLenB, Bool.true_eq_false, implies_true, Nat.zero_le, Bool.or_self, String.reduceEq, dAdd_ii, dAdd_ss, dAdd_tt, dMulA_ii, dMulA_si, dIxS_str, dIxS_tup, dIxS_lst, dIxS_ref, dCat, dCatF, dRep, dSl, dNoP, dPart, dJoin, mExtend, mIndex, rAnyL, rAllL, rSumL, rMaxL, rMinL, dLRg, diEnum, rSortD, dLc2F, dLc2, dYes, diEnumT, dSlS, rSortK, dFzS, dTupRev, diRev, diZip, dMulT, zipD, dDc, dDGet1, dLtD, dGtD, rListK, dUpper, diStr, dInS, dSortL, dSortSet, dStar, rIntS, rStrI, dKIx, dKIn, dKNotIn, rLenK, dKNew, dFzK, dFzD, dKPut, diKeys, diVals, diItems, mInsert, mPopAt, dKGet1, dKGet2, dKc, dDict_dct, dDict_put, isKb_int, isKb_str, true_implies, false_implies, dDIx, dDIn, dDNotIn, dSetD, dDNew, dSortLen, sortLenB, rSortO, dMIx, dMIn, dMNotIn, dMGet2, diMItems, diMKeys, dFzM, dFzMS, dDSetDf, dDGet2, items_enE, oD_n, oD_s, stD, isN_oD, oD_ok, eqv_oD, items_rpD, items_vdD])
local macro_rules | `(tactic| walk_at "st") => `(tactic| (refine seq_i ?_; simp only [dSet, dIf, dTst, dOp, dVar, dC, dRet, dRetN, dNext, dDrop, dBreak, dCont, dAnd, dOr, dNot, dAndV, dOrV, dNotV, dIfE, dTup, dLstF, dLst, dCons, dNil, dCB, dCall, dUn, dNegI, dI, dI0, dEq, dNe, dIs, dIsNot, dIn, dNotIn, dIx, isN_non, isN_bl, isN_int, isN_str, isN_tup, isN_lst, isN_rf, DL.rLen, rInt, rAbs, rMax2, rMin2, DL.rGcd, rTuple, rList, rIs, rIsT, ar0, ar1, ar2, ar3, ar4, ar5, ar6, ar7, ar8, dEnds, dMt, dMt0, mAppend, mPop, mReverse, dSetL, dPut, dAsg, dgName, dgTup, dgCons, dgNil, dFor, diSeq, diRng1, diRng2, dLcF, dLc, dwipe, dFz, dstart, List.map_cons, List.map_nil, List.length_cons, List.length_nil, List.cons_append, List.nil_append, List.append_nil, List.replicate, Nat.reduceAdd, Nat.reduceSub, Nat.reduceLeDiff, Int.reduceNeg, List.set_cons_zero, List.set_cons_succ, List.getElem?_cons_zero, List.getElem?_cons_succ, Option.some.injEq, exists_eq_left', exists_eq_left, exists_eq_right, exists_eq, exists_and_left, exists_and_right, D.int.injEq, D.bl.injEq, D.str.injEq, D.tup.injEq, D.lst.injEq, D.ref.injEq, D.ty.injEq, D.dct.injEq, List.cons.injEq, and_assoc, and_true, true_and, and_self, reduceCtorEq, false_and, and_false, if_true, if_false, if_pos, ite_true, ite_false, Bool.false_eq_true, decide_eq_true_eq, Bool.not_eq_true', decide_eq_false_iff_not, Bool.not_true, Bool.not_false, decide_true, decide_false, eqv_int, eqv_str, eqv_bl, dOk_int, dOk_bl, dOk_non, dOk_tup, dOk_lst, dOk_str, List.all_cons, List.all_nil, Bool.and_true, Bool.true_and, Bool.and_self, dItems_tup, dItems_lst, dItems_rf, CMulA, CDivA, CPowA, Int.reduceLT, Int.reduceLE, Int.reducePow, Int.reduceToNat, Int.reduceMul, Int.reduceAdd, Int.reduceSub, Nat.reducePow, true_or, or_true, ne_eq, not_false_eq_true, not_true_eq_false, dAt_tup, dAt_lst, dAt_rf, dLenOf_tup, dLenOf_lst, dLenOf_rf, dLenOf_str, dTyN_non, dTyN_bl, dTyN_int, dTyN_str, dTyN_tup, dTyN_lst, dTyN_dct, dTyN_rf, dIntOf_int, dIntOf_bl, knownT, subT, atI_0, atI_1, atI_2, atI_3, atI_4, atI_5, atI_neg1, mput_same, mput_mput, eqv_non, tyNames, Option.map_some, String.reduceBEq, Bool.or_true, Bool.true_or, Bool.or_false, Bool.false_or, Bool.false_and, Bool.and_false, beq_self_eq_true, BEq.rfl, List.any_cons, List.any_nil, sizeLine_eq, rLenB, Bool.true_eq_false, implies_true, Nat.zero_le, Bool.or_self, String.reduceEq, dAdd_ii, dAdd_ss, dAdd_tt, dMulA_ii, dMulA_si, dIxS_str, dIxS_tup, dIxS_lst, dIxS_ref, dCat, dCatF, dRep, dSl, dNoP, dPart, dJoin, mExtend, mIndex, rAnyL, rAllL, rSumL, rMaxL, rMinL, dLRg, diEnum, rSortD, dLc2F, dLc2, dYes, diEnumT, dSlS, rSortK, dFzS, dTupRev, diRev, diZip, dMulT, zipD, dDc, dDGet1, dLtD, dGtD, rListK, dUpper, diStr, dInS, dSortL, dSortSet, dStar, rIntS, rStrI, dKIx, dKIn, dKNotIn, rLenK, dKNew, dFzK, dFzD, dKPut, diKeys, diVals, diItems, mInsert, mPopAt, dKGet1, dKGet2, dKc, dDict_dct, dDict_put, isKb_int, isKb_str, true_implies, false_implies, dDIx, dDIn, dDNotIn, dSetD, dDNew, dSortLen, sortLenB, rSortO, dMIx, dMIn, dMNotIn, dMGet2, diMItems, diMKeys, dFzM, dFzMS, dDSetDf, dDGet2, items_enE, oD_n, oD_s, stD, isN_oD, oD_ok, eqv_oD, items_rpD, items_vdD]))
local macro_rules | `(tactic| walk_at "p") => `(tactic| simp only [dRet, dOp, dVar, dCall, dCB, dCons, dNil, ar0, ar1, ar2, ar3, ar4, ar5, DL.rLen, dIx, dEnds, dstart, List.map_cons, List.map_nil, List.length_cons, List.length_nil, List.cons_append, List.nil_append, List.replicate, Nat.reduceAdd, Nat.reduceSub, Nat.reduceLeDiff, List.getElem?_cons_zero, List.getElem?_cons_succ, Option.some.injEq, exists_eq_left', exists_eq_left, exists_and_left, exists_and_right, List.cons.injEq, and_assoc, and_true, true_and, D.ref.injEq, D.int.injEq])
local macro_rules | `(tactic| walk_at "s1") => `(tactic| simp only [dSet, dIf, dTst, dOp, dVar, dC, dRet, dRetN, dNext, dDrop, dBreak, dCont, dAnd, dOr, dNot, dAndV, dOrV, dNotV, dIfE, dTup, dLstF, dLst, dCons, dNil, dCB, dCall, dUn, dNegI, dI, dI0, dEq, dNe, dIs, dIsNot, dIn, dNotIn, dIx, isN_non, isN_bl, isN_int, isN_str, isN_tup, isN_lst, isN_rf, DL.rLen, rInt, rAbs, rMax2, rMin2, DL.rGcd, rTuple, rList, rIs, rIsT, ar0, ar1, ar2, ar3, ar4, ar5, ar6, ar7, ar8, dEnds, dMt, dMt0, mAppend, mPop, mReverse, dSetL, dPut, dAsg, dgName, dgTup, dgCons, dgNil, dFor, diSeq, diRng1, diRng2, dLcF, dLc, dwipe, dFz, dstart, List.map_cons, List.map_nil, List.length_cons, List.length_nil, List.cons_append, List.nil_append, List.append_nil, List.replicate, Nat.reduceAdd, Nat.reduceSub, Nat.reduceLeDiff, Int.reduceNeg, List.set_cons_zero, List.set_cons_succ, List.getElem?_cons_zero, List.getElem?_cons_succ, Option.some.injEq, exists_eq_left', exists_eq_left, exists_eq_right, exists_eq, exists_and_left, exists_and_right, D.int.injEq, D.bl.injEq, D.str.injEq, D.tup.injEq, D.lst.injEq, D.ref.injEq, D.ty.injEq, D.dct.injEq, List.cons.injEq, and_assoc, and_true, true_and, and_self, reduceCtorEq, false_and, and_false, if_true, if_false, if_pos, ite_true, ite_false, Bool.false_eq_true, decide_eq_true_eq, Bool.not_eq_true', decide_eq_false_iff_not, Bool.not_true, Bool.not_false, decide_true, decide_false, eqv_int, eqv_str, eqv_bl, dOk_int, dOk_bl, dOk_non, dOk_tup, dOk_lst, dOk_str, List.all_cons, List.all_nil, Bool.and_true, Bool.true_and, Bool.and_self, dItems_tup, dItems_lst, dItems_rf, CMulA, CDivA, CPowA, Int.reduceLT, Int.reduceLE, Int.reducePow, Int.reduceToNat, Int.reduceMul, Int.reduceAdd, Int.reduceSub, Nat.reducePow, true_or, or_true, ne_eq, not_false_eq_true, not_true_eq_false, dAt_tup, dAt_lst, dAt_rf, dLenOf_tup, dLenOf_lst, dLenOf_rf, dLenOf_str, dTyN_non, dTyN_bl, dTyN_int, dTyN_str, dTyN_tup, dTyN_lst, dTyN_dct, dTyN_rf, dIntOf_int, dIntOf_bl, knownT, subT, atI_0, atI_1, atI_2, atI_3, atI_4, atI_5, atI_neg1, mput_same, mput_mput, eqv_non, tyNames, Option.map_some, String.reduceBEq, Bool.or_true, Bool.true_or, Bool.or_false, Bool.false_or, Bool.false_and, Bool.and_false, beq_self_eq_true, BEq.rfl, List.any_cons, List.any_nil, sizeLine_eq, rLenB, Bool.true_eq_false, implies_true, Nat.zero_le, Bool.or_self, String.reduceEq, dAdd_ii, dAdd_ss, dAdd_tt, dMulA_ii, dMulA_si, dIxS_str, dIxS_tup, dIxS_lst, dIxS_ref, dCat, dCatF, dRep, dSl, dNoP, dPart, dJoin, mExtend, mIndex, rAnyL, rAllL, rSumL, rMaxL, rMinL, dLRg, diEnum, rSortD, dLc2F, dLc2, dYes, diEnumT, dSlS, rSortK, dFzS, dTupRev, diRev, diZip, dMulT, zipD, dDc, dDGet1, dLtD, dGtD, rListK, dUpper, diStr, dInS, dSortL, dSortSet, dStar, rIntS, rStrI, dKIx, dKIn, dKNotIn, rLenK, dKNew, dFzK, dFzD, dKPut, diKeys, diVals, diItems, mInsert, mPopAt, dKGet1, dKGet2, dKc, dDict_dct, dDict_put, isKb_int, isKb_str, true_implies, false_implies, dDIx, dDIn, dDNotIn, dSetD, dDNew, dSortLen, sortLenB, rSortO, dMIx, dMIn, dMNotIn, dMGet2, diMItems, diMKeys, dFzM, dFzMS, dDSetDf, dDGet2, items_enE, oD_n, oD_s, stD, isN_oD, oD_ok, eqv_oD, items_rpD, items_vdD])
structure RpOk (sc : List Ent) (r : Rp) : Prop where
  src : PyData.strOk r.2.1 = true
  nm : PyData.strOk r.2.2.1 = true
  row : ∀ v ∈ r.2.2.2.1, isV v
  key : (keyL sc r.2.2.1 r.2.2.2.1).isSome = true
  can : Can r.2.2.2.2
  len : r.2.2.2.2.length ≤ 20
structure VdOk (sc : List Ent) (v : Vd) : Prop where
  nm : PyData.strOk v.2.1 = true
  row : ∀ u ∈ v.2.2.1, isV u
  key : (keyL sc v.2.1 v.2.2.1).isSome = true
  can : Can v.2.2.2
  len : v.2.2.2.length ≤ 20
theorem keyL_isV {sc : List Ent} {n : Str} {vs ks : List D} (h : ∀ v ∈ vs, isV v) (e : keyL sc n vs = some ks) : ∀ v ∈ ks, isV v := by
  unfold keyL at e
  cases q : sc.find? (fun e => decide (e.1 = n)) with
  | none => rw [q] at e; cases e
  | some x =>
    rw [q] at e
    cases e
    exact fun v hv => h v (List.mem_of_mem_take hv)
/-- a place: a name with a key -/
abbrev Pl := Str × List D
def plD (K : Pl) : D := .tup [.str K.1, .tup K.2]
def plOk (K : Pl) : Prop := ∀ v ∈ K.2, isV v
theorem pl_key {K : Pl} (h : plOk K) : isKey (plD K) := by
  obtain ⟨h1, h2⟩ := row_keys h
  refine ⟨⟨_, rfl⟩, ?_, ?_⟩
  · simp [plD, kOk, kOks, h1]
  · simp only [plD, nk, nks, NestedKey.depth, NestedKey.depthAll]
    omega
theorem pl_nk {K L : Pl} (h : plOk K) (k : plOk L) : nk (plD K) = nk (plD L) ↔ K = L :=
  ⟨fun e => by
    have := nk_inj (pl_key h).2.1 (pl_key k).2.1 e
    simp only [plD, D.tup.injEq, List.cons.injEq, D.str.injEq, and_true] at this
    exact Prod.ext this.1 this.2, fun e => by rw [e]⟩
open Classical in
/-- the verdicts of a place -/
noncomputable def grpV (sc : List Ent) (vs : List Vd) (K : Pl) : List Vd := vs.filter fun v => decide (v.2.1 = K.1 ∧ keyL sc v.2.1 v.2.2.1 = some K.2)
open Classical in
theorem grpV_snoc (sc : List Ent) (vs : List Vd) (v : Vd) (K : Pl) : grpV sc (vs ++ [v]) K = if v.2.1 = K.1 ∧ keyL sc v.2.1 v.2.2.1 = some K.2 then grpV sc vs K ++ [v] else grpV sc vs K := by
  unfold grpV
  rw [List.filter_append]
  by_cases c : v.2.1 = K.1 ∧ keyL sc v.2.1 v.2.2.1 = some K.2
  · rw [if_pos c]
    congr 1
    simp only [List.filter_cons, List.filter_nil, decide_eq_true c, if_true]
  · rw [if_neg c]
    simp only [List.filter_cons, List.filter_nil, decide_eq_false c, Bool.false_eq_true, if_false, List.append_nil]
/-- what is found at a place -/
def ByPl (sc : List Ent) (vs : List Vd) (M : DM) (kvs : List (D × D)) : Prop := ∀ K : Pl, plOk K → dItems ((dget kvs (plD K)).getD (.lst [])) M = some ((grpV sc vs K).map vdD) ∧ ∀ xs, (dget kvs (plD K)).getD (.lst []) ≠ .tup xs
structure GI (w : World) (sc : List Ent) (M : DM) (p : Addr) (don : List Vd) (kvs : List (D × D)) (M1 : DM) : Prop where
  no : ∀ K, plOk K → dget kvs (plD K) = none → grpV sc don K = []
  yes : ∀ K, plOk K → ∀ d, dget kvs (plD K) = some d → ∃ a, d = .ref a ∧ M1 a = some (.lst ((grpV sc don K).map vdD)) ∧ M a = none ∧ a ≠ p
  one : ∀ K L, plOk K → plOk L → ∀ d, dget kvs (plD K) = some d → dget kvs (plD L) = some d → K = L
  len : kvs.length ≤ don.length
  at' : M1 p = some (.dct w kvs)
abbrev sp_verdicts_by_place (w : World) : DSp := ar2 fun a b M Q => ∃ (sc : List Ent) (vs : List Vd), a = .tup (sc.map enE) ∧ b = .tup (vs.map vdD) ∧ (∀ e ∈ sc, PyData.strOk e.1 = true) ∧ (∀ v ∈ vs, VdOk sc v) ∧ vs.length ≤ 1000 ∧ ∀ kvs M', MLe M M' → ByPl sc vs M' kvs → Q (.dmt w kvs) M'
theorem ok_verdicts_by_place (F : Def K mg "verdicts_by_place" s_verdicts_by_place ["schema", "verdicts"]) (B : Bi K mg) (I : Im mg) (c_place_of : Cal P w K mg base 2 "place_of" ["schema", "name", "row"] sp_place_of) : Cal P w K mg base 3 "verdicts_by_place" ["schema", "verdicts"] (sp_verdicts_by_place w) := by
  have sc := sc_verdicts_by_place
  refine F.cal sc (fun ds M Q h => len2 h) (fun f cdv A outer s H E hr => (ds_cons (ds_set (i := 2) sc.nd rfl (Or.inl rfl) (d_dnew (w := w) rfl))
    (ds_cons (ds_for PassesOwn.never rfl (di_seq (d_v 1)) (dg_name (i := 3) sc.nd rfl (Or.inl rfl))
    (ds_one (ds_expr (d_mt PySem.F.slot_list_append PySem.F.type_list_append m_append (d_dsetdf (w := w) rfl (hu_9 hr) (d_v 2) (d_call c_place_of (hr.mono (by first | decide | omega)) rfl (da_cons (d_v 0) (da_cons (d_ix x_ix (d_v 3) d_int (fun _ _ => rfl)) (da_cons (d_ix x_ix (d_v 3) d_int (fun _ _ => rfl)) da_nil)))) (d_lst da_nil)) (da_cons (d_v 3) da_nil)))))
    (ds_one (ds_ret (d_fzM (w := w) (d_v 2))))))) (fun ds M Q h => ?_)
  obtain ⟨a, b, rfl, sc, vs, rfl, rfl, hsc, hvs, hvl, h⟩ := h
  walk_at "st"
  intro p hp
  walk_at "st"
  intro _
  refine for_ind (fun items m1 M1 => ∃ (rest don : List Vd) (kvs : List (D × D)) (x3 : Option D), items = rest.map vdD ∧ don ++ rest = vs ∧ MLe M M1 ∧ GI w sc M p don kvs M1 ∧ m1 = [some (.tup (sc.map enE)), some (.tup (vs.map vdD)), some (.ref p), x3]) ?_ ?_ _ _ _ ⟨vs, [], [], _, rfl, rfl, .put (.refl M) hp, ⟨fun K _ _ => rfl, fun K _ d e => (nomatch e), fun K L _ _ d e => (nomatch e), Nat.le_refl _, mput_same⟩, rfl⟩
  · rintro m1 M1 ⟨rest, don, kvs, x3, hi, hd, hle, gi, rfl⟩
    refine ⟨srcV_none, ?_⟩
    cases rest with
    | cons x r => cases hi
    | nil =>
      rw [List.append_nil] at hd
      subst hd
      walk_at "rd"
      have hnp : ∀ {a : Addr}, a ≠ p → mdel M1 p a = M1 a := fun {a} ha => by
        unfold mdel
        rw [if_neg ha]
      refine ⟨kvs, gi.at', ret_of (h kvs _ (.del hle hp) fun K hK => ?_)⟩
      cases e : dget kvs (plD K) with
      | none =>
        rw [gi.no K hK e]
        exact ⟨rfl, nofun⟩
      | some d =>
        obtain ⟨a, rfl, e1, _, e3⟩ := gi.yes K hK d e
        exact ⟨dItems_ref (by rw [hnp e3]; exact e1), nofun⟩
  · rintro z items m1 M1 Cn hC ⟨rest, don, kvs, x3, hi, hd, hle, gi, rfl⟩
    refine ⟨srcV_none, ?_⟩
    cases rest with
    | nil => cases hi
    | cons v rest =>
      rw [List.map_cons] at hi
      injection hi with e1 e2
      subst e1
      subst e2
      have hv := hvs v (by rw [← hd]; simp)
      obtain ⟨ks, hks⟩ := Option.isSome_iff_exists.mp hv.key
      have hK : plOk (v.2.1, ks) := keyL_isV hv.row hks
      have hK0 : plD (v.2.1, ks) = D.tup [.str v.2.1, .tup ks] := rfl
      have hdl : don.length < 1000 := by
        have := congrArg List.length hd
        rw [List.length_append, List.length_cons] at this
        omega
      have hcond : ∀ K : Pl, (v.2.1 = K.1 ∧ keyL sc v.2.1 v.2.2.1 = some K.2) ↔ K = (v.2.1, ks) := fun K => by
        rw [hks]
        constructor
        · rintro ⟨e1, e2⟩
          exact Prod.ext e1.symm (Option.some.inj e2).symm
        · rintro rfl
          exact ⟨rfl, rfl⟩
      have hsn : ∀ K : Pl, K ≠ (v.2.1, ks) → grpV sc (don ++ [v]) K = grpV sc don K := fun K hne => by rw [grpV_snoc, if_neg (fun z => hne ((hcond K).mp z))]
      have hs0 : grpV sc (don ++ [v]) (v.2.1, ks) = grpV sc don (v.2.1, ks) ++ [v] := by rw [grpV_snoc, if_pos ((hcond _).mpr rfl)]
      have hgl : ∀ K, (grpV sc don K).length ≤ don.length := fun K => List.length_filter_le _ _
      have hd2 : (don ++ [v]) ++ rest = vs := by rw [← hd]; simp
      walk_at "rd"
      refine ⟨⟨_, gi.at'⟩, sc, rfl, hv.nm, hsc, ks, hks, fun t ht => ?_⟩
      have hpt : p ≠ t := ne_of_fresh gi.at' ht
      have htM : M t = none := hle.none ht
      refine ⟨kvs, by rw [mput_ne hpt]; exact gi.at', pl_key hK, by have := gi.len; omega, fun d hd3 => ?_, fun hd3 => ?_⟩
      · rw [← hK0] at hd3
        obtain ⟨a, rfl, e1, e2, e3⟩ := gi.yes _ hK d hd3
        have hat : a ≠ t := ne_of_fresh e1 ht
        have hMa : mput M1 t (.lst []) a = some (.lst ((grpV sc don (v.2.1, ks)).map vdD)) := by rw [mput_ne hat]; exact e1
        refine ⟨⟨_, dItems_ref hMa, nofun⟩, a, rfl, _, hMa, by rw [List.length_map]; have := hgl (v.2.1, ks); omega, ?_⟩
        refine fg_of (hC _ _ ⟨rest, don ++ [v], kvs, _, rfl, hd2, .put (.put hle htM) e2, ⟨fun K hk e => ?_, fun K hk d e => ?_, gi.one, by rw [List.length_append, List.length_singleton]; have := gi.len; omega, by rw [mput_ne e3.symm, mput_ne hpt]; exact gi.at'⟩, rfl⟩)
        · rw [hsn K (fun z => by rw [z, hd3] at e; cases e)]
          exact gi.no K hk e
        · obtain ⟨a', rfl, f1, f2, f3⟩ := gi.yes K hk d e
          refine ⟨a', rfl, ?_, f2, f3⟩
          by_cases c : K = (v.2.1, ks)
          · rw [c, hd3] at e
            cases e
            rw [mput_same, c, hs0, List.map_append]
            rfl
          · have ne : a' ≠ a := fun z => c (gi.one K _ hk hK _ e (by rw [hd3, z]))
            rw [mput_ne ne, mput_ne (ne_of_fresh f1 ht), hsn K c]
            exact f1
      · rw [← hK0] at hd3
        have hMt : ∀ o, mput (mput M1 t (.lst [])) p o t = some (.lst []) := fun o => by rw [mput_ne hpt.symm]; exact mput_same
        rw [hMt]
        refine ⟨⟨_, rfl⟩, [], rfl, by decide, ?_⟩
        rw [← hK0]
        open Classical in
        have hdg : ∀ K, plOk K → dget (dput kvs (plD (v.2.1, ks)) (.ref t)) (plD K) = if K = (v.2.1, ks) then some (.ref t) else dget kvs (plD K) := fun K hk => by
          rw [dget_put]
          by_cases c : K = (v.2.1, ks)
          · rw [if_pos c, if_pos (by rw [c])]
          · rw [if_neg c, if_neg (fun z => c ((pl_nk hK hk).mp z).symm)]
        refine fg_of (hC _ _ ⟨rest, don ++ [v], _, _, rfl, hd2, .put (.put (.put hle htM) hp) htM, ⟨fun K hk e => ?_, fun K hk d e => ?_, fun K L hk hl d e f => ?_, ?_, by rw [mput_ne hpt]; exact mput_same⟩, rfl⟩)
        · rw [hdg K hk] at e
          by_cases c : K = (v.2.1, ks)
          · rw [if_pos c] at e
            cases e
          · rw [if_neg c] at e
            rw [hsn K c]
            exact gi.no K hk e
        · rw [hdg K hk] at e
          by_cases c : K = (v.2.1, ks)
          · rw [if_pos c] at e
            cases e
            refine ⟨t, rfl, ?_, htM, hpt.symm⟩
            rw [mput_same, c, hs0, gi.no _ hK hd3]
            rfl
          · rw [if_neg c] at e
            obtain ⟨a', rfl, f1, f2, f3⟩ := gi.yes K hk d e
            have ne := ne_of_fresh f1 ht
            refine ⟨a', rfl, ?_, f2, f3⟩
            rw [mput_ne ne, mput_ne f3, mput_ne ne, hsn K c]
            exact f1
        · rw [hdg K hk] at e
          rw [hdg L hl] at f
          have bad : ∀ K, plOk K → dget kvs (plD K) = some (.ref t) → False := fun K hk z => by
            obtain ⟨a', ea, f1, _, _⟩ := gi.yes K hk _ z
            cases ea
            rw [ht] at f1
            cases f1
          by_cases c : K = (v.2.1, ks)
          · rw [if_pos c] at e
            cases e
            by_cases c2 : L = (v.2.1, ks)
            · rw [c, c2]
            · rw [if_neg c2] at f
              exact (bad L hl f).elim
          · rw [if_neg c] at e
            by_cases c2 : L = (v.2.1, ks)
            · rw [if_pos c2] at f
              cases f
              exact (bad K hk e).elim
            · rw [if_neg c2] at f
              exact gi.one K L hk hl d e f
        · have := dput_len kvs (plD (v.2.1, ks)) (.ref t)
          have := gi.len
          rw [List.length_append, List.length_singleton]
          omega
abbrev sp_cut_span (tb : Addr) : DSp := ar2 fun a b M Q => ∃ (r : Rp) (vs : List Vd), a = rpD r ∧ dItems b M = some (vs.map vdD) ∧ b ≠ .tup (vs.map vdD) ∧ M tb = some (.tab (lamQ "span_of")) ∧ (∀ u ∈ r.2.2.2.1, isV u) ∧ Can r.2.2.2.2 ∧ r.2.2.2.2.length ≤ 20 ∧ vs.length ≤ 40 ∧ (∀ v ∈ vs, (∀ u ∈ v.2.2.1, isV u) ∧ Can v.2.2.2 ∧ v.2.2.2.length ≤ 20) ∧
  ∀ rs, Can rs → (∀ m, hasS rs m = true ↔ hasS r.2.2.2.2 m = true ∧ ¬ ∃ v ∈ vs, v.2.2.1 ≠ r.2.2.2.1 ∧ hasS v.2.2.2 m = true) → Q (spD rs) M
theorem ok_cut_span (F : Def K mg "cut_span" s_cut_span ["report", "verdicts"]) (B : Bi K mg) (I : Im mg) (c_span_of : Cal P w K mg base 4 "span_of" ["stretches"] (sp_span_of tb)) (c_without : Cal P w K mg base 3 "without" ["span", "other"] sp_without) : Cal P w K mg base 5 "cut_span" ["report", "verdicts"] (sp_cut_span tb) := by
  have sc := sc_cut_span
  refine F.cal sc (fun ds M Q h => len2 h) (fun f cdv A outer s H E hr => (ds_cons (ds_setLc2F (i := 2) rfl sc.nd rfl rfl (sw_true rfl rfl rfl (by decide +kernel)) (own := [("verdict", 3), ("stretch", 4)]) (di_seq (d_v 1)) (blkOk_by (N := N_cut_span) (sc := defScope s_cut_span) (by decide +kernel)) (by decide) (by decide) (fun _ _ _ _ _ => (dg_name (i := 3) sc.nd rfl (Or.inl rfl))) (fun _ _ _ _ _ => (dts_one (dt_cmp (o_ne (hu_eq hr)) (d_ix x_ix (d_v 3) d_int (fun _ _ => rfl)) (d_ix x_ix (d_v 0) d_int (fun _ _ => rfl)) (nomark _)))) (fun _ _ _ _ _ => (di_seq (d_ix x_ix (d_v 3) d_int (fun _ _ => rfl)))) (fun _ _ _ _ _ => (dg_name (i := 4) sc.nd rfl (Or.inl rfl))) (fun _ _ _ _ _ => dts_nil) (fun _ _ _ _ _ => (d_v 4)))
    (ds_one (ds_ret (d_call c_without (hr.mono (by first | decide | omega)) rfl (da_cons (d_ix x_ix (d_v 0) d_int (fun _ _ => rfl)) (da_cons (d_call c_span_of (hr.mono (by first | decide | omega)) rfl (da_cons (d_v 2) da_nil)) da_nil))))))) (fun ds M Q h => ?_)
  obtain ⟨a, b, rfl, r, vs, rfl, hb, hbt, htb, hrv, hrc, hrl, hvl, hvs, h⟩ := h
  walk_at "st"
  refine ⟨_, hb, fun _ q hq => ?_⟩
  have hsv : SrcV (vs.map vdD, dAt b) M := srcV_it hb
  have htq : tb ≠ q := ne_of_fresh htb hq
  have hre : ∀ {a c : List D}, (∀ u ∈ a, isV u) → (∀ u ∈ c, isV u) → (D.eqv (.tup a) (.tup c) = true ↔ a = c) := fun {a c} ha hc => (eqv_pl (.tup a) (.tup c) (row_pl ha) (row_pl hc)).trans ⟨fun e => by injection e, fun e => by rw [e]⟩
  obtain ⟨lo, hlo⟩ : ∃ lo : Vd → List St, ∀ v, (v.2.2.1 ≠ r.2.2.2.1 → lo v = v.2.2.2) ∧ (v.2.2.1 = r.2.2.2.1 → lo v = []) := by
    open Classical in
    exact ⟨fun v => if v.2.2.1 ≠ r.2.2.2.1 then v.2.2.2 else [], fun v => ⟨fun z => if_pos z, fun z => if_neg (fun y => y z)⟩⟩
  have hll : ∀ v ∈ vs, (lo v).length ≤ 20 ∧ ∀ s ∈ lo v, s ∈ v.2.2.2 := fun v hv => by
    by_cases c : v.2.2.1 = r.2.2.2.1
    · rw [(hlo v).2 c]
      exact ⟨Nat.zero_le _, nofun⟩
    · rw [(hlo v).1 c]
      exact ⟨(hvs v hv).2.2, fun s h => h⟩
  have hfl := flat_len lo 20 vs fun v hv => (hll v hv).1
  have hfe : (vs.flatMap fun v => (lo v).map stD) = (vs.flatMap lo).map stD := (List.map_flatMap ..).symm
  refine lcOut_map vdD (fun v : Vd => (lo v).map stD) hsv hq vs (fun v hv acc Cn hacc hcn => ?_) [] ?_ ?_
  · have hvv := hvs v hv
    walk_at "rd"
    refine ⟨row_ok hvv.1 63, row_ok hrv 63, ?_⟩
    by_cases c : v.2.2.1 = r.2.2.2.1
    · rw [if_neg (by rw [(hre hvv.1 hrv).mpr c]; decide)]
      rw [(hlo v).2 c, List.map_nil, List.append_nil] at hcn
      exact hcn
    · rw [if_pos (Bool.eq_false_iff.mpr fun z => c ((hre hvv.1 hrv).mp z))]
      rw [(hlo v).1 c] at hcn hacc
      intro _
      exact lcIn_map stD stD srcV_none hq v.2.2.2 (fun s hs M5 l5 C1 h1 => by walk_at "s1"; exact h1) acc (by rw [List.length_map] at hacc; exact hacc) hcn
  · rw [hfe, List.length_map, List.length_nil]
    omega
  · rw [List.nil_append, hfe, mdel_mput hq]
    refine ⟨vs.flatMap lo, rfl, htb, by omega, fun s hs => ?_, fun rs hrs hrsl hrsm => ⟨r.2.2.2.2, rfl, rs, rfl, hrc, hrs, by omega, by omega, fun us hus husm => ret_of (h us hus fun m => ?_)⟩⟩
    · obtain ⟨v, hv, hsv⟩ := List.mem_flatMap.mp hs
      exact (hvs v hv).2.1.ok s ((hll v hv).2 s hsv)
    · rw [husm m, hrsm m]
      refine and_congr_right fun _ => ?_
      rw [← Bool.not_eq_true]
      refine not_congr ?_
      rw [hasS_iff]
      constructor
      · rintro ⟨s, hs, k⟩
        obtain ⟨v, hv, hsv⟩ := List.mem_flatMap.mp hs
        refine ⟨v, hv, fun c => ?_, hasS_iff.mpr ⟨s, (hll v hv).2 s hsv, k⟩⟩
        rw [(hlo v).2 c] at hsv
        cases hsv
      · rintro ⟨v, hv, c, k⟩
        obtain ⟨s, hs, k⟩ := hasS_iff.mp k
        exact ⟨s, List.mem_flatMap.mpr ⟨v, hv, by rw [(hlo v).1 c]; exact hs⟩, k⟩
/-- the verdicts that take a moment from a report -/
def CutAt (sc : List Ent) (vs : List Vd) (r : Rp) (m : Int) : Prop := ∃ v ∈ vs, v.2.1 = r.2.2.1 ∧ keyL sc v.2.1 v.2.2.1 = keyL sc r.2.2.1 r.2.2.2.1 ∧ v.2.2.1 ≠ r.2.2.2.1 ∧ hasS v.2.2.2 m = true
/-- what is left of a report's span -/
structure CutS (sc : List Ent) (vs : List Vd) (r : Rp) (rs : List St) : Prop where
  can : Can rs
  has : ∀ m, hasS rs m = true ↔ hasS r.2.2.2.2 m = true ∧ ¬ CutAt sc vs r m
theorem CutS.uniq {sc : List Ent} {vs : List Vd} {r : Rp} {rs us : List St} (h : CutS sc vs r rs) (k : CutS sc vs r us) : rs = us := can_uniq h.can k.can fun m => Bool.eq_iff_iff.mpr ((h.has m).trans (k.has m).symm)
open Classical in
noncomputable def cutF (sc : List Ent) (vs : List Vd) (r : Rp) : List St := if h : ∃ rs, CutS sc vs r rs then h.choose else []
theorem cutF_eq {sc : List Ent} {vs : List Vd} {r : Rp} {rs : List St} (h : CutS sc vs r rs) : cutF sc vs r = rs := by
  have e : ∃ rs, CutS sc vs r rs := ⟨rs, h⟩
  unfold cutF
  rw [dif_pos e]
  exact e.choose_spec.uniq h
def setSp (r : Rp) (rs : List St) : Rp := (r.1, r.2.1, r.2.2.1, r.2.2.2.1, rs)
/-- the cut reports -/
noncomputable def cutR (sc : List Ent) (vs : List Vd) (rps : List Rp) : List Rp := (rps.map fun r => setSp r (cutF sc vs r)).filter fun r => !r.2.2.2.2.isEmpty
abbrev Td := List Rp × List Vd × D
def tdD (t : Td) : D := .tup [.tup (t.1.map rpD), .tup (t.2.1.map vdD), t.2.2]
theorem items_tdD {t : Td} {M : DM} : dItems (tdD t) M = some [.tup (t.1.map rpD), .tup (t.2.1.map vdD), t.2.2] := rfl
local macro_rules | `(tactic| walk_at "rd") => `(tactic| simp only [dSeq, dSet, dIf, dTst, dOp, dVar, dC, dRet, dRetN, dNext, dDrop, dBreak, dCont, dAnd, dOr, dNot, dAndV, dOrV, dNotV, dIfE, dTup, dLstF, dLst, dCons, dNil, dCB, dCall, dUn, dNegI, dI, dI0, dEq, dNe, dIs, dIsNot, dIn, dNotIn, dIx, isN_non, isN_bl, isN_int, isN_str, isN_tup, isN_lst, isN_rf, DL.rLen, rInt, rAbs, rMax2, rMin2, DL.rGcd, rTuple, rList, rIs, rIsT, ar0, ar1, ar2, ar3, ar4, ar5, ar6, ar7, ar8, dEnds, dMt, dMt0, mAppend, mPop, mReverse, dSetL, dPut, dAsg, dgName, dgTup, dgCons, dgNil, dFor, diSeq, diRng1, diRng2, dLcF, dLc, dwipe, dFz, dstart, List.map_cons, List.map_nil, List.length_cons, List.length_nil, List.cons_append, List.nil_append, List.append_nil, List.replicate, Nat.reduceAdd, Nat.reduceSub, Nat.reduceLeDiff, Int.reduceNeg, List.set_cons_zero, List.set_cons_succ, List.getElem?_cons_zero, List.getElem?_cons_succ, Option.some.injEq, exists_eq_left', exists_eq_left, exists_eq_right, exists_eq, exists_and_left, exists_and_right, D.int.injEq, D.bl.injEq, D.str.injEq, D.tup.injEq, D.lst.injEq, D.ref.injEq, D.ty.injEq, D.dct.injEq, List.cons.injEq, and_assoc, and_true, true_and, and_self, reduceCtorEq, false_and, and_false, if_true, if_false, if_pos, ite_true, ite_false, Bool.false_eq_true, decide_eq_true_eq, Bool.not_eq_true', decide_eq_false_iff_not, Bool.not_true, Bool.not_false, decide_true, decide_false, eqv_int, eqv_str, eqv_bl, dOk_int, dOk_bl, dOk_non, dOk_tup, dOk_lst, dOk_str, List.all_cons, List.all_nil, Bool.and_true, Bool.true_and, Bool.and_self, dItems_tup, dItems_lst, dItems_rf, CMulA, CDivA, CPowA, Int.reduceLT, Int.reduceLE, Int.reducePow, Int.reduceToNat, Int.reduceMul, Int.reduceAdd, Int.reduceSub, Nat.reducePow, true_or, or_true, ne_eq, not_false_eq_true, not_true_eq_false, dAt_tup, dAt_lst, dAt_rf, dLenOf_tup, dLenOf_lst, dLenOf_rf, dLenOf_str, dTyN_non, dTyN_bl, dTyN_int, dTyN_str, dTyN_tup, dTyN_lst, dTyN_dct, dTyN_rf, dIntOf_int, dIntOf_bl, knownT, subT, atI_0, atI_1, atI_2, atI_3, atI_4, atI_5, atI_neg1, mput_same, mput_mput, eqv_non, tyNames, Option.map_some, String.reduceBEq, Bool.or_true, Bool.true_or, Bool.or_false, Bool.false_or, Bool.false_and, Bool.and_false, beq_self_eq_true, BEq.rfl, List.any_cons, List.any_nil, sizeLine_eq, rLenB, Bool.true_eq_false, implies_true, Nat.zero_le, Bool.or_self, String.reduceEq, dAdd_ii, dAdd_ss, dAdd_tt, dMulA_ii, dMulA_si, dIxS_str, dIxS_tup, dIxS_lst, dIxS_ref, dCat, dCatF, dRep, dSl, dNoP, dPart, dJoin, mExtend, mIndex, rAnyL, rAllL, rSumL, rMaxL, rMinL, dLRg, diEnum, rSortD, dLc2F, dLc2, dYes, diEnumT, dSlS, rSortK, dFzS, dTupRev, diRev, diZip, dMulT, zipD, dDc, dDGet1, dLtD, dGtD, rListK, dUpper, diStr, dInS, dSortL, dSortSet, dStar, rIntS, rStrI, dKIx, dKIn, dKNotIn, rLenK, dKNew, dFzK, dFzD, dKPut, diKeys, diVals, diItems, mInsert, mPopAt, dKGet1, dKGet2, dKc, dDict_dct, dDict_put, isKb_int, isKb_str, true_implies, false_implies, dDIx, dDIn, dDNotIn, dSetD, dDNew, dSortLen, sortLenB, rSortO, dMIx, dMIn, dMNotIn, dMGet2, diMItems, diMKeys, dFzM, dFzMS, dDSetDf, dDGet2, items_enE, oD_n, oD_s, stD, isN_oD, oD_ok, eqv_oD, items_rpD, items_vdD, items_tdD])
local macro_rules | `(tactic| walk_at "st") => `(tactic| (refine seq_i ?_; simp only [dSet, dIf, dTst, dOp, dVar, dC, dRet, dRetN, dNext, dDrop, dBreak, dCont, dAnd, dOr, dNot, dAndV, dOrV, dNotV, dIfE, dTup, dLstF, dLst, dCons, dNil, dCB, dCall, dUn, dNegI, dI, dI0, dEq, dNe, dIs, dIsNot, dIn, dNotIn, dIx, isN_non, isN_bl, isN_int, isN_str, isN_tup, isN_lst, isN_rf, DL.rLen, rInt, rAbs, rMax2, rMin2, DL.rGcd, rTuple, rList, rIs, rIsT, ar0, ar1, ar2, ar3, ar4, ar5, ar6, ar7, ar8, dEnds, dMt, dMt0, mAppend, mPop, mReverse, dSetL, dPut, dAsg, dgName, dgTup, dgCons, dgNil, dFor, diSeq, diRng1, diRng2, dLcF, dLc, dwipe, dFz, dstart, List.map_cons, List.map_nil, List.length_cons, List.length_nil, List.cons_append, List.nil_append, List.append_nil, List.replicate, Nat.reduceAdd, Nat.reduceSub, Nat.reduceLeDiff, Int.reduceNeg, List.set_cons_zero, List.set_cons_succ, List.getElem?_cons_zero, List.getElem?_cons_succ, Option.some.injEq, exists_eq_left', exists_eq_left, exists_eq_right, exists_eq, exists_and_left, exists_and_right, D.int.injEq, D.bl.injEq, D.str.injEq, D.tup.injEq, D.lst.injEq, D.ref.injEq, D.ty.injEq, D.dct.injEq, List.cons.injEq, and_assoc, and_true, true_and, and_self, reduceCtorEq, false_and, and_false, if_true, if_false, if_pos, ite_true, ite_false, Bool.false_eq_true, decide_eq_true_eq, Bool.not_eq_true', decide_eq_false_iff_not, Bool.not_true, Bool.not_false, decide_true, decide_false, eqv_int, eqv_str, eqv_bl, dOk_int, dOk_bl, dOk_non, dOk_tup, dOk_lst, dOk_str, List.all_cons, List.all_nil, Bool.and_true, Bool.true_and, Bool.and_self, dItems_tup, dItems_lst, dItems_rf, CMulA, CDivA, CPowA, Int.reduceLT, Int.reduceLE, Int.reducePow, Int.reduceToNat, Int.reduceMul, Int.reduceAdd, Int.reduceSub, Nat.reducePow, true_or, or_true, ne_eq, not_false_eq_true, not_true_eq_false, dAt_tup, dAt_lst, dAt_rf, dLenOf_tup, dLenOf_lst, dLenOf_rf, dLenOf_str, dTyN_non, dTyN_bl, dTyN_int, dTyN_str, dTyN_tup, dTyN_lst, dTyN_dct, dTyN_rf, dIntOf_int, dIntOf_bl, knownT, subT, atI_0, atI_1, atI_2, atI_3, atI_4, atI_5, atI_neg1, mput_same, mput_mput, eqv_non, tyNames, Option.map_some, String.reduceBEq, Bool.or_true, Bool.true_or, Bool.or_false, Bool.false_or, Bool.false_and, Bool.and_false, beq_self_eq_true, BEq.rfl, List.any_cons, List.any_nil, sizeLine_eq, rLenB, Bool.true_eq_false, implies_true, Nat.zero_le, Bool.or_self, String.reduceEq, dAdd_ii, dAdd_ss, dAdd_tt, dMulA_ii, dMulA_si, dIxS_str, dIxS_tup, dIxS_lst, dIxS_ref, dCat, dCatF, dRep, dSl, dNoP, dPart, dJoin, mExtend, mIndex, rAnyL, rAllL, rSumL, rMaxL, rMinL, dLRg, diEnum, rSortD, dLc2F, dLc2, dYes, diEnumT, dSlS, rSortK, dFzS, dTupRev, diRev, diZip, dMulT, zipD, dDc, dDGet1, dLtD, dGtD, rListK, dUpper, diStr, dInS, dSortL, dSortSet, dStar, rIntS, rStrI, dKIx, dKIn, dKNotIn, rLenK, dKNew, dFzK, dFzD, dKPut, diKeys, diVals, diItems, mInsert, mPopAt, dKGet1, dKGet2, dKc, dDict_dct, dDict_put, isKb_int, isKb_str, true_implies, false_implies, dDIx, dDIn, dDNotIn, dSetD, dDNew, dSortLen, sortLenB, rSortO, dMIx, dMIn, dMNotIn, dMGet2, diMItems, diMKeys, dFzM, dFzMS, dDSetDf, dDGet2, items_enE, oD_n, oD_s, stD, isN_oD, oD_ok, eqv_oD, items_rpD, items_vdD, items_tdD]))
local macro_rules | `(tactic| walk_at "p") => `(tactic| simp only [dRet, dOp, dVar, dCall, dCB, dCons, dNil, ar0, ar1, ar2, ar3, ar4, ar5, DL.rLen, dIx, dEnds, dstart, List.map_cons, List.map_nil, List.length_cons, List.length_nil, List.cons_append, List.nil_append, List.replicate, Nat.reduceAdd, Nat.reduceSub, Nat.reduceLeDiff, List.getElem?_cons_zero, List.getElem?_cons_succ, Option.some.injEq, exists_eq_left', exists_eq_left, exists_and_left, exists_and_right, List.cons.injEq, and_assoc, and_true, true_and, D.ref.injEq, D.int.injEq])
local macro_rules | `(tactic| walk_at "s1") => `(tactic| simp only [dSet, dIf, dTst, dOp, dVar, dC, dRet, dRetN, dNext, dDrop, dBreak, dCont, dAnd, dOr, dNot, dAndV, dOrV, dNotV, dIfE, dTup, dLstF, dLst, dCons, dNil, dCB, dCall, dUn, dNegI, dI, dI0, dEq, dNe, dIs, dIsNot, dIn, dNotIn, dIx, isN_non, isN_bl, isN_int, isN_str, isN_tup, isN_lst, isN_rf, DL.rLen, rInt, rAbs, rMax2, rMin2, DL.rGcd, rTuple, rList, rIs, rIsT, ar0, ar1, ar2, ar3, ar4, ar5, ar6, ar7, ar8, dEnds, dMt, dMt0, mAppend, mPop, mReverse, dSetL, dPut, dAsg, dgName, dgTup, dgCons, dgNil, dFor, diSeq, diRng1, diRng2, dLcF, dLc, dwipe, dFz, dstart, List.map_cons, List.map_nil, List.length_cons, List.length_nil, List.cons_append, List.nil_append, List.append_nil, List.replicate, Nat.reduceAdd, Nat.reduceSub, Nat.reduceLeDiff, Int.reduceNeg, List.set_cons_zero, List.set_cons_succ, List.getElem?_cons_zero, List.getElem?_cons_succ, Option.some.injEq, exists_eq_left', exists_eq_left, exists_eq_right, exists_eq, exists_and_left, exists_and_right, D.int.injEq, D.bl.injEq, D.str.injEq, D.tup.injEq, D.lst.injEq, D.ref.injEq, D.ty.injEq, D.dct.injEq, List.cons.injEq, and_assoc, and_true, true_and, and_self, reduceCtorEq, false_and, and_false, if_true, if_false, if_pos, ite_true, ite_false, Bool.false_eq_true, decide_eq_true_eq, Bool.not_eq_true', decide_eq_false_iff_not, Bool.not_true, Bool.not_false, decide_true, decide_false, eqv_int, eqv_str, eqv_bl, dOk_int, dOk_bl, dOk_non, dOk_tup, dOk_lst, dOk_str, List.all_cons, List.all_nil, Bool.and_true, Bool.true_and, Bool.and_self, dItems_tup, dItems_lst, dItems_rf, CMulA, CDivA, CPowA, Int.reduceLT, Int.reduceLE, Int.reducePow, Int.reduceToNat, Int.reduceMul, Int.reduceAdd, Int.reduceSub, Nat.reducePow, true_or, or_true, ne_eq, not_false_eq_true, not_true_eq_false, dAt_tup, dAt_lst, dAt_rf, dLenOf_tup, dLenOf_lst, dLenOf_rf, dLenOf_str, dTyN_non, dTyN_bl, dTyN_int, dTyN_str, dTyN_tup, dTyN_lst, dTyN_dct, dTyN_rf, dIntOf_int, dIntOf_bl, knownT, subT, atI_0, atI_1, atI_2, atI_3, atI_4, atI_5, atI_neg1, mput_same, mput_mput, eqv_non, tyNames, Option.map_some, String.reduceBEq, Bool.or_true, Bool.true_or, Bool.or_false, Bool.false_or, Bool.false_and, Bool.and_false, beq_self_eq_true, BEq.rfl, List.any_cons, List.any_nil, sizeLine_eq, rLenB, Bool.true_eq_false, implies_true, Nat.zero_le, Bool.or_self, String.reduceEq, dAdd_ii, dAdd_ss, dAdd_tt, dMulA_ii, dMulA_si, dIxS_str, dIxS_tup, dIxS_lst, dIxS_ref, dCat, dCatF, dRep, dSl, dNoP, dPart, dJoin, mExtend, mIndex, rAnyL, rAllL, rSumL, rMaxL, rMinL, dLRg, diEnum, rSortD, dLc2F, dLc2, dYes, diEnumT, dSlS, rSortK, dFzS, dTupRev, diRev, diZip, dMulT, zipD, dDc, dDGet1, dLtD, dGtD, rListK, dUpper, diStr, dInS, dSortL, dSortSet, dStar, rIntS, rStrI, dKIx, dKIn, dKNotIn, rLenK, dKNew, dFzK, dFzD, dKPut, diKeys, diVals, diItems, mInsert, mPopAt, dKGet1, dKGet2, dKc, dDict_dct, dDict_put, isKb_int, isKb_str, true_implies, false_implies, dDIx, dDIn, dDNotIn, dSetD, dDNew, dSortLen, sortLenB, rSortO, dMIx, dMIn, dMNotIn, dMGet2, diMItems, diMKeys, dFzM, dFzMS, dDSetDf, dDGet2, items_enE, oD_n, oD_s, stD, isN_oD, oD_ok, eqv_oD, items_rpD, items_vdD, items_tdD])
structure TdOk (sc : List Ent) (t : Td) : Prop where
  rps : ∀ r ∈ t.1, RpOk sc r
  vds : ∀ v ∈ t.2.1, VdOk sc v
  rl : t.1.length ≤ 40
  vl : t.2.1.length ≤ 40
abbrev sp_cut_reports (w : World) (tb : Addr) : DSp := ar2 fun a b M Q => ∃ (sc : List Ent) (t : Td), a = .tup (sc.map enE) ∧ b = tdD t ∧ (∀ e ∈ sc, PyData.strOk e.1 = true) ∧ TdOk sc t ∧ M tb = some (.tab (lamQ "span_of")) ∧ ((∀ r ∈ t.1, ∃ rs, CutS sc t.2.1 r rs) → Q (.tup ((cutR sc t.2.1 t.1).map rpD)) M)
theorem ok_cut_reports (F : Def K mg "cut_reports" s_cut_reports ["schema", "told"]) (B : Bi K mg) (I : Im mg) (c_place_of : Cal P w K mg base 2 "place_of" ["schema", "name", "row"] sp_place_of) (c_verdicts_by_place : Cal P w K mg base 3 "verdicts_by_place" ["schema", "verdicts"] (sp_verdicts_by_place w)) (c_cut_span : Cal P w K mg base 5 "cut_span" ["report", "verdicts"] (sp_cut_span tb)) : Cal P w K mg base 6 "cut_reports" ["schema", "told"] (sp_cut_reports w tb) := by
  have sc := sc_cut_reports
  refine F.cal sc (fun ds M Q h => len2 h) (fun f cdv A outer s H E hr => (ds_cons (ds_set (i := 2) sc.nd rfl (Or.inl rfl) (d_call c_verdicts_by_place (hr.mono (by first | decide | omega)) rfl (da_cons (d_v 0) (da_cons (d_ix x_ix (d_v 1) d_int (fun _ _ => rfl)) da_nil))))
    (ds_cons (ds_set (i := 3) sc.nd rfl (Or.inl rfl) (d_lst da_nil))
    (ds_cons (ds_for PassesOwn.never rfl (di_seq (d_ix x_ix (d_v 1) d_int (fun _ _ => rfl))) (dg_name (i := 4) sc.nd rfl (Or.inl rfl))
    (ds_cons (ds_set (i := 5) sc.nd rfl (Or.inl rfl) (d_call c_cut_span (hr.mono (by first | decide | omega)) rfl (da_cons (d_v 4) (da_cons (d_mget2 (w := w) rfl (hu_9 hr) (d_v 2) (d_call c_place_of (hr.mono (by first | decide | omega)) rfl (da_cons (d_v 0) (da_cons (d_ix x_ix (d_v 4) d_int (fun _ _ => rfl)) (da_cons (d_ix x_ix (d_v 4) d_int (fun _ _ => rfl)) da_nil)))) (d_lstF da_nil)) da_nil))))
    (ds_one (ds_if (dt_cmp (o_ne (hu_eq hr)) (d_v 5) (d_tup da_nil) (nomark _))
    (ds_one (ds_expr (d_mt PySem.F.slot_list_append PySem.F.type_list_append m_append (d_v 3) (da_cons (d_tup (da_star (d_sl (d_v 4) dp_none (dp_some d_int)) (da_cons (d_v 5) da_nil))) da_nil))))
    ds_nil))))
    (ds_one (ds_ret (d_ct c_tuple rfl B.b_tuple boot_tuple (da_cons (d_v 3) da_nil)))))))) (fun ds M Q h => ?_)
  obtain ⟨a, b, rfl, sc, t, rfl, rfl, hsc, ht, htb, h⟩ := h
  have hemp : ∀ rs : List St, D.eqv (spD rs) (.tup []) = rs.isEmpty := fun rs => by
    cases rs <;> simp [D.eqv, D.py, D.pys, PyData.eqv, PyData.eqvAll]
  walk_at "st"
  refine ⟨sc, rfl, t.2.1, rfl, hsc, ht.vds, by have := ht.vl; omega, fun kvs M' hle hby => ?_⟩
  walk_at "st"
  intro p hp
  have hMp : M p = none := hle.none hp
  have htp : tb ≠ p := ne_of_fresh (hle _ _ htb) hp
  walk_at "st"
  intro _
  refine for_ind (fun items m1 M1 => ∃ (rest dn : List Rp) (x4 x5 : Option D), items = rest.map rpD ∧ dn ++ rest = t.1 ∧ (∀ r ∈ dn, ∃ rs, CutS sc t.2.1 r rs) ∧ M1 = mput M' p (.lst ((cutR sc t.2.1 dn).map rpD)) ∧ m1 = [some (.tup (sc.map enE)), some (tdD t), some (.dmt w kvs), some (.ref p), x4, x5]) ?_ ?_ _ _ _ ⟨t.1, [], _, _, rfl, rfl, nofun, rfl, rfl⟩
  · rintro m1 M1 ⟨rest, dn, x4, x5, hi, hd, hex, rfl, rfl⟩
    refine ⟨srcV_none, ?_⟩
    cases rest with
    | cons x r => cases hi
    | nil =>
      rw [List.append_nil] at hd
      subst hd
      walk_at "rd"
      exact ret_le (MLe.put hle hMp) (h hex)
  · rintro z items m1 M1 Cn hC ⟨rest, dn, x4, x5, hi, hd, hex, rfl, rfl⟩
    refine ⟨srcV_none, ?_⟩
    cases rest with
    | nil => cases hi
    | cons r rest =>
      rw [List.map_cons] at hi
      injection hi with e1 e2
      subst e1
      subst e2
      have hrt : r ∈ t.1 := by rw [← hd]; simp
      have hr := ht.rps r hrt
      obtain ⟨ks, hks⟩ := Option.isSome_iff_exists.mp hr.key
      have hK : plOk (r.2.2.1, ks) := keyL_isV hr.row hks
      have hK0 : plD (r.2.2.1, ks) = D.tup [.str r.2.2.1, .tup ks] := rfl
      obtain ⟨hb1, hb2⟩ := hby _ hK
      have hgm : ∀ v, v ∈ grpV sc t.2.1 (r.2.2.1, ks) ↔ v ∈ t.2.1 ∧ v.2.1 = r.2.2.1 ∧ keyL sc v.2.1 v.2.2.1 = some ks := fun v => by
        open Classical in
        unfold grpV
        rw [List.mem_filter, decide_eq_true_iff]
      have hd2 : (dn ++ [r]) ++ rest = t.1 := by rw [← hd]; simp
      have hdl : (cutR sc t.2.1 dn).length ≤ 40 := by
        have h1 : (cutR sc t.2.1 dn).length ≤ dn.length := by
          unfold cutR
          exact Nat.le_trans (List.length_filter_le _ _) (by rw [List.length_map]; exact Nat.le_refl _)
        have h2 := congrArg List.length hd
        rw [List.length_append, List.length_cons] at h2
        have := ht.rl
        omega
      walk_at "rd"
      refine ⟨⟨_, .frz⟩, sc, rfl, hr.nm, hsc, ks, hks, kvs, .frz, pl_key hK, ?_⟩
      rw [← hK0]
      refine ⟨r, rfl, _, items_up hb1 (.put (.refl _) hp), hb2 _, by rw [mput_ne htp]; exact hle _ _ htb, hr.row, hr.can, hr.len, ?_, fun v hv => ?_, fun rs hrs hrsm => ?_⟩
      · have := List.length_filter_le (fun v : Vd => true) t.2.1
        have h3 : (grpV sc t.2.1 (r.2.2.1, ks)).length ≤ t.2.1.length := List.length_filter_le _ _
        have := ht.vl
        omega
      · have := ht.vds v ((hgm v).mp hv).1
        exact ⟨this.row, this.can, this.len⟩
      have hcs : CutS sc t.2.1 r rs := ⟨hrs, fun m => (hrsm m).trans (and_congr_right fun _ => not_congr ⟨fun ⟨v, hv, k1, k2⟩ => ⟨v, ((hgm v).mp hv).1, ((hgm v).mp hv).2.1, ((hgm v).mp hv).2.2.trans hks.symm, k1, k2⟩, fun ⟨v, hv, k0, k1, k2, k3⟩ => ⟨v, (hgm v).mpr ⟨hv, k0, k1.trans hks⟩, k2, k3⟩⟩)⟩
      have hce := cutF_eq hcs
      have hex2 : ∀ x ∈ dn ++ [r], ∃ rs, CutS sc t.2.1 x rs := fun x hx => by
        rcases List.mem_append.mp hx with hx | hx
        · exact hex x hx
        · rw [List.mem_singleton.mp hx]
          exact ⟨rs, hcs⟩
      have hsn : cutR sc t.2.1 (dn ++ [r]) = cutR sc t.2.1 dn ++ (if rs.isEmpty = true then [] else [setSp r rs]) := by
        unfold cutR
        rw [List.map_append, List.filter_append]
        congr 1
        rw [List.map_singleton, hce]
        cases e : rs.isEmpty <;> simp [List.filter_cons, setSp, e]
      refine ⟨sts_ok rs 62, ?_⟩
      rw [hemp]
      cases e : rs.isEmpty with
      | true =>
        rw [if_neg (by decide)]
        rw [e, if_pos rfl, List.append_nil] at hsn
        exact fg_of (hC _ _ ⟨rest, dn ++ [r], _, _, rfl, hd2, hex2, by rw [hsn], rfl⟩)
      | false =>
        rw [if_pos rfl]
        rw [e, if_neg (by decide)] at hsn
        refine ⟨⟨_, rfl⟩, fun _ => ⟨by show 5 ≤ 16777216; omega, _, rfl, by rw [List.length_map]; omega, ?_⟩, fun z => absurd rfl z⟩
        exact fg_of (hC _ _ ⟨rest, dn ++ [r], _, _, rfl, hd2, hex2, by rw [hsn, List.map_append]; rfl, rfl⟩)
abbrev sp_told_rows (w : World) (tb : Addr) : DSp := ar5 fun a b c d e M Q => ∃ (sc : List Ent) (t : Td) (n : Str) (ks : List D) (m : Int), a = .tup (sc.map enE) ∧ b = tdD t ∧ c = .str n ∧ d = .tup ks ∧ e = .int m ∧ (∀ e ∈ sc, PyData.strOk e.1 = true) ∧ TdOk sc t ∧ M tb = some (.tab (lamQ "span_of")) ∧ PyData.strOk n = true ∧ (∀ v ∈ ks, isV v) ∧ (sc.find? fun e => decide (e.1 = n)).isSome = true ∧
  ((∀ r ∈ t.1, ∃ rs, CutS sc t.2.1 r rs) → ∀ (rows rs : List (List D)), (∀ x, x ∈ rows ↔ ∃ r ∈ cutR sc t.2.1 t.1, r.2.2.1 = n ∧ keyL sc n r.2.2.2.1 = some ks ∧ hasS r.2.2.2.2 m = true ∧ r.2.2.2.1 = x) → SR rows rs → Q (.tup (rs.map D.tup)) M)
theorem ok_told_rows (F : Def K mg "told_rows" s_told_rows ["schema", "told", "name", "key", "moment"]) (B : Bi K mg) (I : Im mg) (c_sorted_rows : Cal P w K mg base 5 "sorted_rows" ["rows"] sp_sorted_rows) (c_table_of : Cal P w K mg base 1 "table_of" ["schema", "name"] sp_table_of) (c_key_of : Cal P w K mg base 1 "key_of" ["table", "row"] sp_key_of) (c_has : Cal P w K mg base 1 "has" ["span", "moment"] sp_has) (c_cut_reports : Cal P w K mg base 6 "cut_reports" ["schema", "told"] (sp_cut_reports w tb)) : Cal P w K mg base 7 "told_rows" ["schema", "told", "name", "key", "moment"] (sp_told_rows w tb) := by
  have sc := sc_told_rows
  refine F.cal sc (fun ds M Q h => len5 h) (fun f cdv A outer s H E hr => (ds_cons (ds_set (i := 5) sc.nd rfl (Or.inl rfl) (d_call c_table_of (hr.mono (by first | decide | omega)) rfl (da_cons (d_v 0) (da_cons (d_v 2) da_nil))))
    (ds_cons (ds_if (dt_cmp o_is (d_v 5) d_non (nomark _))
    (ds_one (ds_ret (d_tup da_nil)))
    ds_nil)
    (ds_cons (ds_set (i := 6) sc.nd rfl (Or.inl rfl) (d_lst da_nil))
    (ds_cons (ds_for PassesOwn.never rfl (di_seq (d_call c_cut_reports (hr.mono (by first | decide | omega)) rfl (da_cons (d_v 0) (da_cons (d_v 1) da_nil)))) (dg_tup (n := 5) rfl (dgs_cons (dg_name (i := 7) sc.nd rfl (Or.inl rfl)) (dgs_cons (dg_name (i := 8) sc.nd rfl (Or.inl rfl)) (dgs_cons (dg_name (i := 9) sc.nd rfl (Or.inl rfl)) (dgs_cons (dg_name (i := 10) sc.nd rfl (Or.inl rfl)) (dgs_cons (dg_name (i := 11) sc.nd rfl (Or.inl rfl)) dgs_nil))))))
    (ds_one (ds_if (dt_w (dw_and (dt_cmp (o_eq (hu_eq hr)) (d_v 9) (d_v 2) (nomark _)) (dw_and (dt_cmp (o_eq (hu_eq hr)) (d_call c_key_of (hr.mono (by first | decide | omega)) rfl (da_cons (d_v 5) (da_cons (d_v 10) da_nil))) (d_v 3) (nomark _)) (dw_and1 (dt_val (d_call c_has (hr.mono (by first | decide | omega)) rfl (da_cons (d_v 11) (da_cons (d_v 4) da_nil))))))))
    (ds_one (ds_expr (d_mt PySem.F.slot_list_append PySem.F.type_list_append m_append (d_v 6) (da_cons (d_v 10) da_nil))))
    ds_nil)))
    (ds_one (ds_ret (d_ct c_tuple rfl B.b_tuple boot_tuple (da_cons (d_fz (d_call c_sorted_rows (hr.mono (by first | decide | omega)) rfl (da_cons (d_v 6) da_nil))) da_nil))))))))) (fun ds M Q h => ?_)
  obtain ⟨a, b, c, d, e, rfl, sc, t, n, ks, m, rfl, rfl, rfl, rfl, rfl, hsc, ht, htb, hn, hks, hns, h⟩ := h
  obtain ⟨en, hen⟩ := Option.isSome_iff_exists.mp hns
  have hkl : ∀ row : List D, keyL sc n row = some (row.take en.2.1) := fun row => by
    unfold keyL
    rw [hen]
    rfl
  walk_at "st"
  refine ⟨sc, rfl, hn, hsc, ?_⟩
  rw [hen]
  dsimp only
  walk_at "st"
  rw [if_neg (fun z => by cases z)]
  walk_at "st"
  intro p hp
  have htp : tb ≠ p := ne_of_fresh htb hp
  walk_at "st"
  refine ⟨sc, rfl, t, rfl, hsc, ht, by rw [mput_ne htp]; exact htb, fun hex => ?_⟩
  intro _
  have hcl : (cutR sc t.2.1 t.1).length ≤ 40 := by
    unfold cutR
    exact Nat.le_trans (List.length_filter_le _ _) (by rw [List.length_map]; exact ht.rl)
  have hcr : ∀ r ∈ cutR sc t.2.1 t.1, PyData.strOk r.2.2.1 = true ∧ (∀ v ∈ r.2.2.2.1, isV v) ∧ Can r.2.2.2.2 := fun r hr => by
    obtain ⟨r0, hr0, rfl⟩ := List.mem_map.mp (List.mem_filter.mp hr).1
    obtain ⟨rs, hrs⟩ := hex r0 hr0
    have := ht.rps r0 hr0
    refine ⟨this.nm, this.row, ?_⟩
    show Can (cutF sc t.2.1 r0)
    rw [cutF_eq hrs]
    exact hrs.can
  refine for_ind (fun items m1 M1 => ∃ (rest dn : List Rp) (rows : List (List D)) (x7 x8 x9 x10 x11 : Option D), items = rest.map rpD ∧ dn ++ rest = cutR sc t.2.1 t.1 ∧ rows.length ≤ dn.length ∧ (∀ x, x ∈ rows ↔ ∃ r ∈ dn, r.2.2.1 = n ∧ keyL sc n r.2.2.2.1 = some ks ∧ hasS r.2.2.2.2 m = true ∧ r.2.2.2.1 = x) ∧ M1 = mput M p (.lst (rows.map D.tup)) ∧
    m1 = [some (.tup (sc.map enE)), some (tdD t), some (.str n), some (.tup ks), some (.int m), some (enE en), some (.ref p), x7, x8, x9, x10, x11]) ?_ ?_ _ _ _ ⟨_, [], [], _, _, _, _, _, rfl, rfl, Nat.le_refl _, fun x => by simp, rfl, rfl⟩
  · rintro m1 M1 ⟨rest, dn, rows, x7, x8, x9, x10, x11, hi, hd, hrl, hrows, rfl, rfl⟩
    refine ⟨srcV_none, ?_⟩
    cases rest with
    | cons x r => cases hi
    | nil =>
      rw [List.append_nil] at hd
      subst hd
      walk_at "rd"
      refine ⟨rows, rfl, fun x hx v hv => ?_, fun rs hsr q hq => ⟨_, rfl, ?_⟩⟩
      · obtain ⟨r, hr, _, _, _, rfl⟩ := (hrows x).mp hx
        exact (hcr r hr).2.1 v hv
      · rw [mdel_mput hq]
        exact ret_le (.put (.refl M) hp) (h hex rows rs hrows hsr)
  · rintro z items m1 M1 Cn hC ⟨rest, dn, rows, x7, x8, x9, x10, x11, hi, hd, hrl, hrows, rfl, rfl⟩
    refine ⟨srcV_none, ?_⟩
    cases rest with
    | nil => cases hi
    | cons r rest =>
      rw [List.map_cons] at hi
      injection hi with e1 e2
      subst e1
      subst e2
      obtain ⟨r1, r2, r3⟩ := hcr r (by rw [← hd]; simp)
      have hd2 : (dn ++ [r]) ++ rest = cutR sc t.2.1 t.1 := by rw [← hd]; simp
      have hdl : dn.length < 40 := by
        have h2 := congrArg List.length hd
        rw [List.length_append, List.length_cons] at h2
        omega
      have hre : ∀ {a c : List D}, (∀ u ∈ a, isV u) → (∀ u ∈ c, isV u) → (D.eqv (.tup a) (.tup c) = true ↔ a = c) := fun {a c} ha hc => (eqv_pl (.tup a) (.tup c) (row_pl ha) (row_pl hc)).trans ⟨fun e => by injection e, fun e => by rw [e]⟩
      have htk : ∀ v ∈ r.2.2.2.1.take en.2.1, isV v := fun v hv => r2 v (List.mem_of_mem_take hv)
      have no : ¬ (r.2.2.1 = n ∧ keyL sc n r.2.2.2.1 = some ks ∧ hasS r.2.2.2.2 m = true) → ∀ x, x ∈ rows ↔ ∃ r' ∈ dn ++ [r], r'.2.2.1 = n ∧ keyL sc n r'.2.2.2.1 = some ks ∧ hasS r'.2.2.2.2 m = true ∧ r'.2.2.2.1 = x := fun z x => by
        rw [hrows x]
        constructor
        · rintro ⟨r', h1, h2⟩
          exact ⟨r', by simp [h1], h2⟩
        · rintro ⟨r', h1, h2, h3, h4, h5⟩
          rcases List.mem_append.mp h1 with h1 | h1
          · exact ⟨r', h1, h2, h3, h4, h5⟩
          · rw [List.mem_singleton.mp h1] at h2 h3 h4
            exact absurd ⟨h2, h3, h4⟩ z
      walk_at "rd"
      refine ⟨_, rfl, rfl, _, _, rfl, _, _, rfl, _, _, rfl, _, _, rfl, _, _, rfl, rfl, by rw [dOk_str]; exact r1, hn, ?_⟩
      rw [eqv_str]
      by_cases c1 : r.2.2.1 = n
      · rw [if_pos (decide_eq_true c1)]
        refine ⟨en, rfl, _, rfl, row_ok htk 63, row_ok hks 63, ?_⟩
        by_cases c2 : r.2.2.2.1.take en.2.1 = ks
        · rw [if_pos ((hre htk hks).mpr c2)]
          refine ⟨_, rfl, r3, ?_⟩
          by_cases c3 : hasS r.2.2.2.2 m = true
          · rw [if_pos c3]
            refine ⟨⟨_, rfl⟩, _, rfl, by rw [List.length_map]; omega, ?_⟩
            refine fg_of (hC _ _ ⟨rest, dn ++ [r], rows ++ [r.2.2.2.1], _, _, _, _, _, rfl, hd2, by rw [List.length_append, List.length_append]; simp; omega, fun x => ?_, by rw [List.map_append]; rfl, rfl⟩)
            rw [List.mem_append, hrows x, List.mem_singleton]
            constructor
            · rintro (⟨r', h1, h2⟩ | rfl)
              · exact ⟨r', by simp [h1], h2⟩
              · exact ⟨r, by simp, c1, by rw [hkl, c2], c3, rfl⟩
            · rintro ⟨r', h1, h2⟩
              rcases List.mem_append.mp h1 with h1 | h1
              · exact .inl ⟨r', h1, h2⟩
              · rw [List.mem_singleton.mp h1] at h2
                exact .inr h2.2.2.2.symm
          · rw [if_neg c3]
            exact fg_of (hC _ _ ⟨rest, dn ++ [r], rows, _, _, _, _, _, rfl, hd2, by rw [List.length_append]; omega, no fun z => c3 z.2.2, rfl, rfl⟩)
        · rw [if_neg (fun z => c2 ((hre htk hks).mp z))]
          exact fg_of (hC _ _ ⟨rest, dn ++ [r], rows, _, _, _, _, _, rfl, hd2, by rw [List.length_append]; omega, no fun z => c2 (by rw [hkl] at z; exact Option.some.inj z.2.1), rfl, rfl⟩)
      · rw [if_neg (by rw [decide_eq_true_eq]; exact c1)]
        exact fg_of (hC _ _ ⟨rest, dn ++ [r], rows, _, _, _, _, _, rfl, hd2, by rw [List.length_append]; omega, no fun z => c1 z.1, rfl, rfl⟩)
/-- a form of a table -/
def fmOk (d : D) : Prop := ∃ k o : Nat, d = .tup [.int k, .int o] ∧ k + o ≤ 8
theorem fm_mk {k o : Nat} (h : k + o ≤ 8) : fmOk (.tup [.int (k : Nat), .int (o : Nat)]) := ⟨k, o, rfl, h⟩
def enOk (e : Ent) : Prop := PyData.strOk e.1 = true ∧ e.2.1 + e.2.2 ≤ 8
abbrev sp_l_schema : DSp := ar2 fun a b M Q => ∃ (p : Addr) (w0 w1 w2 : Str) (ws : List D), a = .ref p ∧ b = .lst (.str w0 :: .str w1 :: .str w2 :: ws) ∧ Dr M p ∧ PyData.strOk w0 = true ∧ PyData.strOk w1 = true ∧ PyData.strOk w2 = true ∧
  ∀ (o : DO) (sc : List Ent), DrO o → (∀ e ∈ sc, enOk e) → (∃ e ∈ sc, 0 < e.2.2) → ((sc.map (·.1)).Perm [w0, w1] ∨ (sc.map (·.1)).Perm [w0, w1, w2]) → Q (.tup (sc.map enE)) (mput M p o)
theorem ok_l_schema (F : Def K mg "_law_schema" s_l_schema ["draws", "words"]) (B : Bi K mg) (I : Im mg) (c_l_take : Cal P w K mg base 1 "_law_take" ["draws", "many"] sp_l_take) (c_l_pick : Cal P w K mg base 2 "_law_pick" ["draws", "row"] sp_l_pick) : Cal P w K mg base 3 "_law_schema" ["draws", "words"] sp_l_schema := by
  have sc := sc_l_schema
  refine F.cal sc (fun ds M Q h => len2 h) (fun f cdv A outer s H E hr => (ds_cons (ds_set (i := 2) sc.nd rfl (Or.inl rfl) (d_lstF (da_cons (d_tup (da_cons d_int (da_cons d_int da_nil))) (da_cons (d_tup (da_cons d_int (da_cons d_int da_nil))) (da_cons (d_tup (da_cons d_int (da_cons d_int da_nil))) (da_cons (d_tup (da_cons d_int (da_cons d_int da_nil))) (da_cons (d_tup (da_cons d_int (da_cons d_int da_nil))) (da_cons (d_tup (da_cons d_int (da_cons d_int da_nil))) (da_cons (d_tup (da_cons d_int (da_cons d_int da_nil))) (da_cons (d_tup (da_cons d_int (da_cons d_int da_nil))) da_nil))))))))))
    (ds_cons (ds_set (i := 3) sc.nd rfl (Or.inl rfl) (d_lst (da_cons (d_op o_addA (d_tup (da_cons (d_ix x_ix (d_v 1) d_int (fun _ _ => rfl)) da_nil)) (d_ix x_ix (d_v 2) (d_call c_l_take (hr.mono (by first | decide | omega)) rfl (da_cons (d_v 0) (da_cons d_int da_nil))) (fun _ _ => rfl))) (da_cons (d_op o_addA (d_tup (da_cons (d_ix x_ix (d_v 1) d_int (fun _ _ => rfl)) da_nil)) (d_call c_l_pick (hr.mono (by first | decide | omega)) rfl (da_cons (d_v 0) (da_cons (d_v 2) da_nil)))) da_nil))))
    (ds_cons (ds_if (dt_cmp (o_eq (hu_eq hr)) (d_call c_l_take (hr.mono (by first | decide | omega)) rfl (da_cons (d_v 0) (da_cons d_int da_nil))) d_int (nomark _))
    (ds_one (ds_put (d_op o_addA (d_tup (da_cons (d_ix x_ix (d_v 1) d_int (fun _ _ => rfl)) da_nil)) (d_call c_l_pick (hr.mono (by first | decide | omega)) rfl (da_cons (d_v 0) (da_cons (d_lstF (da_cons (d_tup (da_cons d_int (da_cons d_int da_nil))) (da_cons (d_tup (da_cons d_int (da_cons d_int da_nil))) (da_cons (d_tup (da_cons d_int (da_cons d_int da_nil))) (da_cons (d_tup (da_cons d_int (da_cons d_int da_nil))) da_nil))))) da_nil)))) (d_v 3) d_int s_lst))
    ds_nil)
    (ds_cons (ds_if (dt_cmp (o_eq (hu_eq hr)) (d_call c_l_take (hr.mono (by first | decide | omega)) rfl (da_cons (d_v 0) (da_cons d_int da_nil))) d_int (nomark _))
    (ds_one (ds_expr (d_mt PySem.F.slot_list_append PySem.F.type_list_append m_append (d_v 3) (da_cons (d_op o_addA (d_tup (da_cons (d_ix x_ix (d_v 1) d_int (fun _ _ => rfl)) da_nil)) (d_call c_l_pick (hr.mono (by first | decide | omega)) rfl (da_cons (d_v 0) (da_cons (d_v 2) da_nil)))) da_nil))))
    ds_nil)
    (ds_one (ds_ret (d_ct c_tuple rfl B.b_tuple boot_tuple (da_cons (d_fz (d_cb (c_sortD (hu_40 hr)) rfl B.b_sorted boot_sorted (da_cons (d_v 3) da_nil))) da_nil))))))))) (fun ds M Q h => ?_)
  obtain ⟨a, b, rfl, p, w0, w1, w2, ws, rfl, rfl, hp, h0, h1, h2, h⟩ := h
  have fms : ∀ x ∈ [D.tup [D.int 1, D.int 1], D.tup [D.int 0, D.int 1], D.tup [D.int 2, D.int 1], D.tup [D.int 1, D.int 2], D.tup [D.int 1, D.int 0], D.tup [D.int 0, D.int 2], D.tup [D.int 2, D.int 0], D.tup [D.int 0, D.int 0]], fmOk x := by
    intro d hd
    simp only [List.mem_cons, List.not_mem_nil, or_false] at hd
    rcases hd with rfl | rfl | rfl | rfl | rfl | rfl | rfl | rfl
    · exact fm_mk (k := 1) (o := 1) (by omega)
    · exact fm_mk (k := 0) (o := 1) (by omega)
    · exact fm_mk (k := 2) (o := 1) (by omega)
    · exact fm_mk (k := 1) (o := 2) (by omega)
    · exact fm_mk (k := 1) (o := 0) (by omega)
    · exact fm_mk (k := 0) (o := 2) (by omega)
    · exact fm_mk (k := 2) (o := 0) (by omega)
    · exact fm_mk (k := 0) (o := 0) (by omega)
  have gms : ∀ x ∈ [D.tup [D.int 3, D.int 2], D.tup [D.int 4, D.int 4], D.tup [D.int 1, D.int 6], D.tup [D.int 3, D.int 0]], fmOk x := by
    intro d hd
    simp only [List.mem_cons, List.not_mem_nil, or_false] at hd
    rcases hd with rfl | rfl | rfl | rfl
    · exact fm_mk (k := 3) (o := 2) (by omega)
    · exact fm_mk (k := 4) (o := 4) (by omega)
    · exact fm_mk (k := 1) (o := 6) (by omega)
    · exact fm_mk (k := 3) (o := 0) (by omega)
  walk_at "st"
  walk_at "st"
  refine ⟨hp, fun o1 r1 ho1 r10 r11 => ?_⟩
  obtain ⟨k0, c0, e0, hk0, hp0⟩ : ∃ k c : Nat, atI [D.tup [D.int 1, D.int 1], D.tup [D.int 0, D.int 1], D.tup [D.int 2, D.int 1], D.tup [D.int 1, D.int 2], D.tup [D.int 1, D.int 0], D.tup [D.int 0, D.int 2], D.tup [D.int 2, D.int 0], D.tup [D.int 0, D.int 0]] r1 = some (.tup [.int (k : Nat), .int (c : Nat)]) ∧ k + c ≤ 8 ∧ 0 < c := by
    rcases (by omega : r1 = 0 ∨ r1 = 1 ∨ r1 = 2 ∨ r1 = 3) with rfl | rfl | rfl | rfl
    · exact ⟨1, 1, rfl, by omega, by omega⟩
    · exact ⟨0, 1, rfl, by omega, by omega⟩
    · exact ⟨2, 1, rfl, by omega, by omega⟩
    · exact ⟨1, 2, rfl, by omega, by omega⟩
  refine ⟨_, e0, ?_⟩
  rw [dAdd_tt]
  refine ⟨by show 1 + 2 ≤ 16777216; decide, dr_put ho1, fun o2 x ho2 hx => ?_⟩
  obtain ⟨k1, c1, rfl, hk1⟩ := fms x hx
  rw [dAdd_tt]
  refine ⟨by show 1 + 2 ≤ 16777216; decide, fun q hq => ?_⟩
  rw [mput_mput] at hq ⊢
  have hpq : p ≠ q := ne_of_fresh mput_same hq
  have hqM : M q = none := by
    rw [mput_ne hpq.symm] at hq
    exact hq
  refine seq_cut (fun m2 M2 => ∃ (o : DO) (e1 : Ent), DrO o ∧ enOk e1 ∧ e1.1 = w1 ∧ M2 = mput (mput M p o) q (.lst [enE (w0, k0, c0), enE e1]) ∧ m2 = [some (.ref p), some (.lst (.str w0 :: .str w1 :: .str w2 :: ws)), some (.lst [D.tup [D.int 1, D.int 1], D.tup [D.int 0, D.int 1], D.tup [D.int 2, D.int 1], D.tup [D.int 1, D.int 2], D.tup [D.int 1, D.int 0], D.tup [D.int 0, D.int 2], D.tup [D.int 2, D.int 0], D.tup [D.int 0, D.int 0]]), some (.ref q)]) (fun Cn hC => ?_) ?_
  · walk_at "s1"
    refine ⟨dr_ne (dr_put ho2) hpq, fun o3 r3 ho3 _ _ => ?_⟩
    rw [mput_swap hpq]
    split
    · refine ⟨dr_ne (dr_put ho3) hpq, fun o4 x ho4 hx => ?_⟩
      obtain ⟨k2, c2, rfl, hk2⟩ := gms x hx
      rw [mput_swap hpq, dAdd_tt]
      refine ⟨by show 1 + 2 ≤ 16777216; decide, _, mput_same, _, rfl, ?_⟩
      rw [mput_mput]
      exact hC _ _ ⟨o4, (w1, k2, c2), ho4, ⟨h1, hk2⟩, rfl, rfl, rfl⟩
    · exact hC _ _ ⟨o3, (w1, k1, c1), ho3, ⟨h1, hk1⟩, rfl, rfl, rfl⟩
  rintro m2 M2 ⟨o3, e1, ho3, he1, hn1, rfl, rfl⟩
  refine seq_cut (fun m2 M2 => ∃ (o : DO) (es : List Ent), DrO o ∧ (∀ e ∈ es, enOk e) ∧ (w0, k0, c0) ∈ es ∧ (es.map (·.1) = [w0, w1] ∨ es.map (·.1) = [w0, w1, w2]) ∧ M2 = mput (mput M p o) q (.lst (es.map enE)) ∧ m2 = [some (.ref p), some (.lst (.str w0 :: .str w1 :: .str w2 :: ws)), some (.lst [D.tup [D.int 1, D.int 1], D.tup [D.int 0, D.int 1], D.tup [D.int 2, D.int 1], D.tup [D.int 1, D.int 2], D.tup [D.int 1, D.int 0], D.tup [D.int 0, D.int 2], D.tup [D.int 2, D.int 0], D.tup [D.int 0, D.int 0]]), some (.ref q)]) (fun Cn hC => ?_) ?_
  · walk_at "s1"
    refine ⟨dr_ne (dr_put ho3) hpq, fun o4 r4 ho4 _ _ => ?_⟩
    rw [mput_swap hpq]
    have e2ok : ∀ e ∈ [((w0, k0, c0) : Ent), e1], enOk e := by
      intro e he
      simp only [List.mem_cons, List.not_mem_nil, or_false] at he
      rcases he with rfl | rfl
      · exact ⟨h0, hk0⟩
      · exact he1
    split
    · refine ⟨⟨_, by rw [mput_same]⟩, dr_ne (dr_put ho4) hpq, fun o5 x ho5 hx => ?_⟩
      obtain ⟨k2, c2, rfl, hk2⟩ := fms x hx
      rw [mput_swap hpq, dAdd_tt]
      refine ⟨by show 1 + 2 ≤ 16777216; decide, _, mput_same, by show 2 < 16777216; decide, ?_⟩
      rw [mput_mput]
      refine hC _ _ ⟨o5, [(w0, k0, c0), e1, (w2, k2, c2)], ho5, fun e he => ?_, by simp, .inr (by simp [hn1]), rfl, rfl⟩
      simp only [List.mem_cons, List.not_mem_nil, or_false] at he
      rcases he with rfl | rfl | rfl
      · exact ⟨h0, hk0⟩
      · exact he1
      · exact ⟨h2, hk2⟩
    · exact hC _ _ ⟨o4, [(w0, k0, c0), e1], ho4, e2ok, by simp, .inl (by simp [hn1]), rfl, rfl⟩
  rintro m2 M2 ⟨o4, es, ho4, hes, hin, hnm, rfl, rfl⟩
  walk_at "rd"
  refine ⟨ents_ok fun e he => (hes e he).1, ents_alike es, ents_sortable es, fun p2 hp2 => ?_⟩
  obtain ⟨gs, hg, hperm⟩ := sort_ents es
  refine ⟨_, rfl, ?_⟩
  rw [mdel_mput hp2, hg]
  exact ret_le (MLe.put (.refl _) (mput_fresh hpq hqM)) (h o4 gs ho4 (fun e he => hes e (hperm.mem_iff.mp he)) ⟨_, hperm.mem_iff.mpr hin, hp0⟩ (hnm.imp (fun z => by rw [← z]; exact hperm.map _) fun z => by rw [← z]; exact hperm.map _))
abbrev sp_l_scale : DSp := ar1 fun a M Q => ∃ p, a = .ref p ∧ Dr M p ∧ ∀ (o : DO) (i : Int), DrO o → 0 < i → Q (.int i) (mput M p o)
theorem ok_l_scale (F : Def K mg "_law_scale" s_l_scale ["draws"]) (B : Bi K mg) (I : Im mg) (c_l_pick : Cal P w K mg base 2 "_law_pick" ["draws", "row"] sp_l_pick) : Cal P w K mg base 3 "_law_scale" ["draws"] sp_l_scale := by
  have sc := sc_l_scale
  refine F.cal sc (fun ds M Q h => len1 h) (fun f cdv A outer s H E hr => (ds_one (ds_ret (d_call c_l_pick (hr.mono (by first | decide | omega)) rfl (da_cons (d_v 0) (da_cons (d_lstF (da_cons d_int (da_cons d_int (da_cons d_int (da_cons d_int (da_cons d_int (da_cons d_int (da_cons (d_op o_add (d_op o_pow d_int d_int) d_int) (da_cons (d_op o_add (d_op o_pow d_int d_int) d_int) da_nil))))))))) da_nil)))))) (fun ds M Q h => ?_)
  obtain ⟨a, rfl, p, rfl, hd, h⟩ := h
  walk_at "rd"
  refine ⟨hd, fun o x ho hx => ?_⟩
  simp only [List.mem_cons, List.not_mem_nil, or_false] at hx
  rcases hx with rfl | rfl | rfl | rfl | rfl | rfl | rfl | rfl <;> exact ret_of (h o _ ho (by decide))

/-! ### the law's values, spans, rows -/
abbrev sp_l_values : DSp := ar2 fun a b M Q => ∃ (p : Addr) (w0 w1 : Str) (ws : List Str), a = .ref p ∧ b = .lst (.str w0 :: .str w1 :: ws.map D.str) ∧ Dr M p ∧ w0 ≠ w1 ∧ PyData.strOk w0 = true ∧ PyData.strOk w1 = true ∧ (∀ w ∈ ws, PyData.strOk w = true) ∧ ∀ (o : DO) (x y z : D), DrO o → [x, y, z].Nodup → isV x → isV y → isV z → Q (.lst [x, y, z]) (mput M p o)
theorem ok_l_values (F : Def K mg "_law_values" s_l_values ["draws", "words"]) (B : Bi K mg) (I : Im mg) (c_l_take : Cal P w K mg base 1 "_law_take" ["draws", "many"] sp_l_take) (c_l_pick : Cal P w K mg base 2 "_law_pick" ["draws", "row"] sp_l_pick) : Cal P w K mg base 3 "_law_values" ["draws", "words"] sp_l_values := by
  have sc := sc_l_values
  refine F.cal sc (fun ds M Q h => len2 h) (fun f cdv A outer s H E hr => (ds_cons (ds_set (i := 2) sc.nd rfl (Or.inl rfl) (d_op o_sub (d_call c_l_take (hr.mono (by first | decide | omega)) rfl (da_cons (d_v 0) (da_cons d_int da_nil))) d_int))
    (ds_cons (ds_if (dt_cmp (o_eq (hu_eq hr)) (d_call c_l_take (hr.mono (by first | decide | omega)) rfl (da_cons (d_v 0) (da_cons d_int da_nil))) d_int (nomark _))
    (ds_one (ds_set (i := 2) sc.nd rfl (Or.inl rfl) (d_op o_mul (d_v 2) (d_call c_l_pick (hr.mono (by first | decide | omega)) rfl (da_cons (d_v 0) (da_cons (d_lstF (da_cons d_int (da_cons (d_op o_add (d_op o_pow d_int d_int) d_int) (da_cons (d_op o_add (d_op o_pow d_int d_int) d_int) (da_cons (d_op o_add (d_op o_pow d_int d_int) d_int) (da_cons (d_op o_add (d_op o_pow d_int d_int) d_int) da_nil)))))) da_nil))))))
    ds_nil)
    (ds_one (ds_ret (d_ix x_ix (d_lstF (da_cons (d_lstF (da_cons (d_v 2) (da_cons (d_op o_add (d_v 2) d_int) (da_cons (d_call c_l_pick (hr.mono (by first | decide | omega)) rfl (da_cons (d_v 0) (da_cons (d_v 1) da_nil))) da_nil)))) (da_cons (d_lstF (da_cons (d_ix x_ix (d_v 1) d_int (fun _ _ => rfl)) (da_cons (d_v 2) (da_cons (d_ix x_ix (d_v 1) d_int (fun _ _ => rfl)) da_nil)))) da_nil))) (d_call c_l_take (hr.mono (by first | decide | omega)) rfl (da_cons (d_v 0) (da_cons d_int da_nil))) (fun _ _ => rfl))))))) (fun ds M Q h => ?_)
  obtain ⟨a, b, rfl, p, w0, w1, ws, rfl, rfl, hp, hne, h0, h1, hw, h⟩ := h
  walk_at "st"
  refine ⟨hp, fun o1 r1 ho1 r10 r11 => ?_⟩
  refine seq_cut (fun m2 M2 => ∃ (o2 : DO) (i : Int), DrO o2 ∧ M2 = mput M p o2 ∧ m2 = [some (.ref p), some (.lst (.str w0 :: .str w1 :: ws.map D.str)), some (.int i)]) (fun Cn hC => ?_) ?_
  · walk_at "s1"
    refine ⟨dr_put ho1, fun o2 r2 ho2 _ _ => ?_⟩
    split
    · refine ⟨dr_put ho2, fun o3 x ho3 hx => ?_⟩
      simp only [List.mem_cons, List.not_mem_nil, or_false] at hx
      obtain ⟨i, rfl⟩ : ∃ i : Int, x = .int i := by
        rcases hx with rfl | rfl | rfl | rfl | rfl <;> exact ⟨_, rfl⟩
      refine ⟨i, rfl, .inl ⟨by omega, by omega⟩, hC _ _ ⟨o3, _, ho3, rfl, rfl⟩⟩
    · exact hC _ _ ⟨o2, _, ho2, rfl, rfl⟩
  rintro m2 M2 ⟨o2, i, ho2, rfl, rfl⟩
  walk_at "rd"
  refine ⟨dr_put ho2, fun o3 v ho3 hv => ⟨dr_put ho3, fun o4 r ho4 r0 r1 => ?_⟩⟩
  obtain ⟨w, rfl, hw'⟩ : ∃ w, v = .str w ∧ PyData.strOk w = true := by
    rcases List.mem_cons.mp hv with rfl | hv
    · exact ⟨_, rfl, h0⟩
    · rcases List.mem_cons.mp hv with rfl | hv
      · exact ⟨_, rfl, h1⟩
      · obtain ⟨w, hm, rfl⟩ := List.mem_map.mp hv
        exact ⟨_, rfl, hw w hm⟩
  have vi : ∀ i : Int, isV (.int i) := fun i => .inl ⟨i, rfl⟩
  have vs : ∀ {s : Str}, PyData.strOk s = true → isV (.str s) := fun hs => .inr ⟨_, rfl, hs⟩
  rcases (by omega : r = 0 ∨ r = 1) with rfl | rfl
  · exact ⟨_, atI_0 _ _, ret_of (h o4 _ _ _ ho4 (by simp; omega) (vi _) (vi _) (vs hw'))⟩
  · exact ⟨_, atI_1 _ _ _, ret_of (h o4 _ _ _ ho4 (by simp [hne]) (vs h0) (vi _) (vs h1))⟩
abbrev sp_l_span : DSp := ar2 fun a b M Q => ∃ (p : Addr) (g : Int), a = .ref p ∧ b = .int g ∧ 0 < g ∧ Dr M p ∧ ∀ (o : DO) (s : St) (ss : List St), DrO o → ss.length ≤ 1 → Can (s :: ss) → Q (spD (s :: ss)) (mput M p o)
theorem ok_l_span (F : Def K mg "_law_span" s_l_span ["draws", "great"]) (B : Bi K mg) (I : Im mg) (c_l_take : Cal P w K mg base 1 "_law_take" ["draws", "many"] sp_l_take) : Cal P w K mg base 2 "_law_span" ["draws", "great"] sp_l_span := by
  have sc := sc_l_span
  refine F.cal sc (fun ds M Q h => len2 h) (fun f cdv A outer s H E hr => (ds_cons (ds_set (i := 2) sc.nd rfl (Or.inl rfl) (d_call c_l_take (hr.mono (by first | decide | omega)) rfl (da_cons (d_v 0) (da_cons d_int da_nil))))
    (ds_cons (ds_set (i := 3) sc.nd rfl (Or.inl rfl) (d_op o_add (d_op o_add (d_v 2) d_int) (d_call c_l_take (hr.mono (by first | decide | omega)) rfl (da_cons (d_v 0) (da_cons d_int da_nil)))))
    (ds_cons (ds_set (i := 4) sc.nd rfl (Or.inl rfl) (d_lst (da_cons (d_tup (da_cons (d_op o_mul (d_v 2) (d_v 1)) (da_cons (d_op o_mul (d_v 3) (d_v 1)) da_nil))) da_nil)))
    (ds_cons (ds_if (dt_cmp (o_eq (hu_eq hr)) (d_call c_l_take (hr.mono (by first | decide | omega)) rfl (da_cons (d_v 0) (da_cons d_int da_nil))) d_int (nomark _))
    (ds_cons (ds_set (i := 2) sc.nd rfl (Or.inl rfl) (d_op o_add (d_op o_add (d_v 3) d_int) (d_call c_l_take (hr.mono (by first | decide | omega)) rfl (da_cons (d_v 0) (da_cons d_int da_nil)))))
    (ds_cons (ds_set (i := 3) sc.nd rfl (Or.inl rfl) (d_op o_add (d_op o_add (d_v 2) d_int) (d_call c_l_take (hr.mono (by first | decide | omega)) rfl (da_cons (d_v 0) (da_cons d_int da_nil)))))
    (ds_one (ds_expr (d_mt PySem.F.slot_list_append PySem.F.type_list_append m_append (d_v 4) (da_cons (d_tup (da_cons (d_op o_mul (d_v 2) (d_v 1)) (da_cons (d_op o_mul (d_v 3) (d_v 1)) da_nil))) da_nil))))))
    ds_nil)
    (ds_cons (ds_if (dt_cmp (o_eq (hu_eq hr)) (d_call c_l_take (hr.mono (by first | decide | omega)) rfl (da_cons (d_v 0) (da_cons d_int da_nil))) d_int (nomark _))
    (ds_one (ds_put (d_tup (da_cons (d_op o_mul (d_v 2) (d_v 1)) (da_cons d_non da_nil))) (d_v 4) (d_neg d_int) s_lst))
    ds_nil)
    (ds_one (ds_ret (d_ct c_tuple rfl B.b_tuple boot_tuple (da_cons (d_v 4) da_nil)))))))))) (fun ds M Q h => ?_)
  obtain ⟨a, b, rfl, p, g, rfl, rfl, hg, hp, h⟩ := h
  walk_at "st"
  refine ⟨hp, fun o1 r1 ho1 r10 r11 => ?_⟩
  walk_at "st"
  refine ⟨dr_put ho1, fun o2 r2 ho2 r20 r21 => ?_⟩
  walk_at "st"
  refine ⟨.inl ⟨by omega, by omega⟩, .inl ⟨by omega, by omega⟩, fun q hq => ?_⟩
  have hpq : p ≠ q := ne_of_fresh mput_same hq
  have hqM : M q = none := by
    rw [mput_ne hpq.symm] at hq
    exact hq
  refine seq_cut (fun m2 M2 => ∃ (o : DO) (b e : Int) (pre : List St), DrO o ∧ 0 ≤ b ∧ b < e ∧ e < 100 ∧ (pre = [] ∨ ∃ b0 e0 : Int, pre = [(b0 * g, some (e0 * g))] ∧ 0 ≤ b0 ∧ b0 < e0 ∧ e0 < b) ∧ M2 = mput (mput M p o) q (.lst ((pre ++ [(b * g, some (e * g))]).map stD)) ∧ m2 = [some (.ref p), some (.int g), some (.int b), some (.int e), some (.ref q)]) (fun Cn hC => ?_) ?_
  · walk_at "s1"
    refine ⟨dr_ne (dr_put ho2) hpq, fun o3 r3 ho3 _ _ => ?_⟩
    rw [mput_swap hpq]
    split
    · walk_at "rd"
      refine ⟨dr_ne (dr_put ho3) hpq, fun o4 r4 ho4 r40 r41 => ?_⟩
      rw [mput_swap hpq]
      refine ⟨dr_ne (dr_put ho4) hpq, fun o5 r5 ho5 r50 r51 => ?_⟩
      rw [mput_swap hpq]
      refine ⟨⟨_, by rw [mput_same]⟩, .inl ⟨by omega, by omega⟩, .inl ⟨by omega, by omega⟩, _, mput_same, by show 1 < 16777216; decide, ?_⟩
      rw [mput_mput]
      exact hC _ _ ⟨o5, r1 + 1 + r2 + 1 + r4, r1 + 1 + r2 + 1 + r4 + 1 + r5, [(r1 * g, some ((r1 + 1 + r2) * g))], ho5, by omega, by omega, by omega, .inr ⟨r1, r1 + 1 + r2, rfl, by omega, by omega, by omega⟩, rfl, rfl⟩
    · exact hC _ _ ⟨o3, r1, r1 + 1 + r2, [], ho3, by omega, by omega, by omega, .inl rfl, rfl, rfl⟩
  rintro m2 M2 ⟨o3, b, e, pre, ho3, hb0, hbe, he0, hpre, rfl, rfl⟩
  refine seq_cut (fun m2 M2 => ∃ (o : DO) (E : Option Int), DrO o ∧ (E = none ∨ E = some (e * g)) ∧ M2 = mput (mput M p o) q (.lst ((pre ++ [(b * g, E)]).map stD)) ∧ m2 = [some (.ref p), some (.int g), some (.int b), some (.int e), some (.ref q)]) (fun Cn hC => ?_) ?_
  · walk_at "s1"
    refine ⟨dr_ne (dr_put ho3) hpq, fun o4 r4 ho4 _ _ => ?_⟩
    rw [mput_swap hpq]
    split
    · have hix : ixN ((pre ++ [(b * g, some (e * g))]).map stD).length (-1) = some pre.length := by
        rcases hpre with rfl | ⟨b0, e0, rfl, _, _, _⟩ <;> rfl
      refine ⟨.inl ⟨by omega, by omega⟩, _, mput_same, _, hix, ?_⟩
      have hset : ((pre ++ [(b * g, some (e * g))]).map stD).set pre.length (D.tup [D.int (b * g), D.non]) = (pre ++ [(b * g, none)]).map stD := by
        rcases hpre with rfl | ⟨b0, e0, rfl, _, _, _⟩ <;> rfl
      rw [hset, mput_mput]
      exact hC _ _ ⟨o4, none, ho4, .inl rfl, rfl, rfl⟩
    · exact hC _ _ ⟨o4, some (e * g), ho4, .inr rfl, rfl, rfl⟩
  rintro m2 M2 ⟨o4, E, ho4, hE, rfl, rfl⟩
  walk_at "rd"
  refine ret_le (MLe.put (.refl _) (mput_fresh hpq hqM)) ?_
  have ok1 : okS (b * g, E) := ⟨Int.mul_nonneg hb0 (by omega), fun x hx => by
    rcases hE with rfl | rfl
    · cases hx
    · cases hx
      exact Int.mul_lt_mul_of_pos_right hbe hg⟩
  rcases hpre with rfl | ⟨b0, e0, rfl, l0, l1, l2⟩
  · exact h o4 (b * g, E) [] ho4 (by simp) ⟨fun s hs => by rw [List.mem_singleton.mp hs]; exact ok1, List.pairwise_singleton _ _⟩
  · refine h o4 (b0 * g, some (e0 * g)) [(b * g, E)] ho4 (by simp) ⟨fun s hs => ?_, ?_⟩
    · rcases List.mem_cons.mp hs with rfl | hs
      · exact ⟨Int.mul_nonneg l0 (by omega), fun x hx => by cases hx; exact Int.mul_lt_mul_of_pos_right l1 hg⟩
      · rw [List.mem_singleton.mp hs]
        exact ok1
    · refine List.pairwise_cons.mpr ⟨fun y hy => ?_, List.pairwise_singleton _ _⟩
      rw [List.mem_singleton.mp hy]
      exact ⟨_, rfl, Int.mul_lt_mul_of_pos_right l2 hg⟩
abbrev sp_l_meet : DSp := ar2 fun a b M Q => ∃ ss ts : List St, a = spD ss ∧ b = spD ts ∧ ∀ k : Bool, Q (.bl k) M
theorem ok_l_meet (F : Def K mg "_law_meet" s_l_meet ["span", "other"]) (B : Bi K mg) (I : Im mg) (c_l_has : Cal P w K mg base 1 "_law_has" ["span", "moment"] sp_l_has) : Cal P w K mg base 2 "_law_meet" ["span", "other"] sp_l_meet := by
  have sc := sc_l_meet
  refine F.cal sc (fun ds M Q h => len2 h) (fun f cdv A outer s H E hr => (ds_cons (ds_for PassesOwn.never rfl (di_seq (d_v 0)) (dg_name (i := 2) sc.nd rfl (Or.inl rfl))
    (ds_one (ds_if (dt_val (d_call c_l_has (hr.mono (by first | decide | omega)) rfl (da_cons (d_v 1) (da_cons (d_ix x_ix (d_v 2) d_int (fun _ _ => rfl)) da_nil))))
    (ds_one (ds_ret d_bl))
    ds_nil)))
    (ds_cons (ds_for PassesOwn.never rfl (di_seq (d_v 1)) (dg_name (i := 2) sc.nd rfl (Or.inl rfl))
    (ds_one (ds_if (dt_val (d_call c_l_has (hr.mono (by first | decide | omega)) rfl (da_cons (d_v 0) (da_cons (d_ix x_ix (d_v 2) d_int (fun _ _ => rfl)) da_nil))))
    (ds_one (ds_ret d_bl))
    ds_nil)))
    (ds_one (ds_ret d_bl))))) (fun ds M Q h => ?_)
  obtain ⟨a, b, rfl, ss, ts, rfl, rfl, h⟩ := h
  walk_at "st"
  intro _
  refine for_ind (fun items m1 M1 => M1 = M ∧ ∃ (rest : List St) (x2 : Option D), items = rest.map stD ∧ m1 = [some (spD ss), some (spD ts), x2]) ?_ ?_ _ _ _ ⟨rfl, ss, _, rfl, rfl⟩
  · rintro m1 M1 ⟨rfl, rest, x2, hi, rfl⟩
    refine ⟨srcV_none, ?_⟩
    clear hi
    walk_at "st"
    walk_at "st"
    intro _
    refine for_ind (fun its m2 M2 => M2 = M1 ∧ ∃ (rest : List St) (x2 : Option D), its = rest.map stD ∧ m2 = [some (spD ss), some (spD ts), x2]) ?_ ?_ _ _ _ ⟨rfl, ts, _, rfl, rfl⟩
    · rintro m1 M1 ⟨rfl, rest, x2, hi, rfl⟩
      refine ⟨srcV_none, ?_⟩
      walk_at "rd"
      exact ret_of (h false)
    · rintro z its m2 M2 Cn hC ⟨rfl, rest, x2, hi, rfl⟩
      refine ⟨srcV_none, ?_⟩
      cases rest with
      | nil => cases hi
      | cons s rest =>
        rw [List.map_cons] at hi
        injection hi with h1 h2
        subst h1
        subst h2
        walk_at "s1"
        refine ⟨ss, .inl rfl, ?_⟩
        split
        · exact ret_of (h true)
        · exact fg_of (hC _ _ ⟨rfl, rest, _, rfl, rfl⟩)
  · rintro z items m1 M1 Cn hC ⟨rfl, rest, x2, hi, rfl⟩
    refine ⟨srcV_none, ?_⟩
    cases rest with
    | nil => cases hi
    | cons s rest =>
      rw [List.map_cons] at hi
      injection hi with h1 h2
      subst h1
      subst h2
      walk_at "s1"
      refine ⟨ts, .inl rfl, ?_⟩
      split
      · exact ret_of (h true)
      · exact fg_of (hC _ _ ⟨rfl, rest, _, rfl, rfl⟩)
abbrev sp_l_key_of : DSp := ar3 fun a b c M Q => ∃ (sc : List Ent) (n : Str) (vs : List D), a = .tup (sc.map enE) ∧ b = .str n ∧ c = .tup vs ∧ PyData.strOk n = true ∧ (∀ e ∈ sc, PyData.strOk e.1 = true) ∧ Q (.tup ((keyL sc n vs).getD vs)) M
theorem ok_l_key_of (F : Def K mg "_law_key_of" s_l_key_of ["schema", "name", "row"]) (B : Bi K mg) (I : Im mg)  : Cal P w K mg base 1 "_law_key_of" ["schema", "name", "row"] sp_l_key_of := by
  have sc := sc_l_key_of
  refine F.cal sc (fun ds M Q h => len3 h) (fun f cdv A outer s H E hr => (ds_cons (ds_for PassesOwn.never rfl (di_seq (d_v 0)) (dg_name (i := 3) sc.nd rfl (Or.inl rfl))
    (ds_one (ds_if (dt_cmp (o_eq (hu_eq hr)) (d_ix x_ix (d_v 3) d_int (fun _ _ => rfl)) (d_v 1) (nomark _))
    (ds_one (ds_ret (d_sl (d_v 2) dp_none (dp_some (d_ix x_ix (d_v 3) d_int (fun _ _ => rfl))))))
    ds_nil)))
    (ds_one (ds_ret (d_v 2))))) (fun ds M Q h => ?_)
  obtain ⟨a, b, c, rfl, sc, n, vs, rfl, rfl, rfl, hn, hs, h⟩ := h
  walk_at "st"
  intro _
  unfold keyL at h
  refine for_ind (fun items m1 M1 => M1 = M ∧ ∃ (rest : List Ent) (x3 : Option D), items = rest.map enE ∧ (∀ e ∈ rest, PyData.strOk e.1 = true) ∧ Q (.tup (((rest.find? (fun e => decide (e.1 = n))).map fun e => vs.take e.2.1).getD vs)) M ∧ m1 = [some (.tup (sc.map enE)), some (.str n), some (.tup vs), x3]) ?_ ?_ _ _ _ ⟨rfl, sc, _, rfl, hs, h, rfl⟩
  · rintro m1 M1 ⟨rfl, rest, x3, hi, _, hq, rfl⟩
    refine ⟨srcV_none, ?_⟩
    cases rest with
    | cons e r => cases hi
    | nil =>
      walk_at "rd"
      exact ret_of hq
  · rintro z items m1 M1 Cn hC ⟨rfl, rest, x3, hi, hr, hq, rfl⟩
    refine ⟨srcV_none, ?_⟩
    cases rest with
    | nil => cases hi
    | cons e rest =>
      rw [List.map_cons] at hi
      injection hi with h1 h2
      subst h1
      subst h2
      walk_at "s1"
      refine ⟨hr e (by simp), hn, ?_⟩
      rw [List.find?_cons] at hq
      split
      · next c =>
        rw [show decide (e.1 = n) = true from decide_eq_true c] at hq
        rw [cutD_to]
        exact ret_of hq
      · next c =>
        rw [show decide (e.1 = n) = false from decide_eq_false c] at hq
        exact fg_of (hC _ _ ⟨rfl, rest, _, rfl, fun e he => hr e (by simp [he]), hq, rfl⟩)
abbrev sp_l_drawn_row : DSp := ar3 fun a b c M Q => ∃ (p : Addr) (e : Ent) (x y z : D), a = .ref p ∧ b = enE e ∧ c = .lst [x, y, z] ∧ e.2.1 ≤ 8 ∧ e.2.2 ≤ 8 ∧ Dr M p ∧ ∀ (o : DO) (vs : List D), DrO o → vs.length = e.2.1 + e.2.2 → (∀ v ∈ vs, v ∈ [x, y, z]) → Q (.tup vs) (mput M p o)
theorem ok_l_drawn_row (F : Def K mg "_law_drawn_row" s_l_drawn_row ["draws", "table", "values"]) (B : Bi K mg) (I : Im mg) (c_l_take : Cal P w K mg base 1 "_law_take" ["draws", "many"] sp_l_take) (c_l_pick : Cal P w K mg base 2 "_law_pick" ["draws", "row"] sp_l_pick) : Cal P w K mg base 3 "_law_drawn_row" ["draws", "table", "values"] sp_l_drawn_row := by
  have sc := sc_l_drawn_row
  refine F.cal sc (fun ds M Q h => len3 h) (fun f cdv A outer s H E hr => (ds_cons (ds_setLcF (i := 3) rfl sc.nd rfl rfl (sw_true rfl rfl rfl (by decide +kernel)) (own := [("j", 4)]) (di_range1 rfl B.b_range (da_cons (d_ix x_ix (d_v 1) d_int (fun _ _ => rfl)) da_nil)) (blkOk_by (N := N_l_drawn_row) (sc := defScope s_l_drawn_row) (by decide +kernel)) (by decide) (fun _ _ _ _ _ => (dg_name (i := 4) sc.nd rfl (Or.inl rfl))) (fun _ _ _ _ _ => dts_nil) (fun _ _ _ _ _ => (d_ix x_ix (d_v 2) (d_call c_l_take (hr.mono (by first | decide | omega)) rfl (da_cons (d_v 0) (da_cons d_int da_nil))) (fun _ _ => rfl))))
    (ds_one (ds_ret (d_ct c_tuple rfl B.b_tuple boot_tuple (da_cons (d_catF (d_v 3) (d_lcF rfl sc.nd (own := [("j", 4)]) (di_range1 rfl B.b_range (da_cons (d_ix x_ix (d_v 1) d_int (fun _ _ => rfl)) da_nil)) (blkOk_by (N := N_l_drawn_row) (sc := defScope s_l_drawn_row) (by decide +kernel)) (by decide) (fun _ _ _ _ _ => (dg_name (i := 4) sc.nd rfl (Or.inl rfl))) (fun _ _ _ _ _ => dts_nil) (fun _ _ _ _ _ => (d_call c_l_pick (hr.mono (by first | decide | omega)) rfl (da_cons (d_v 0) (da_cons (d_v 2) da_nil)))))) da_nil)))))) (fun ds M Q h => ?_)
  obtain ⟨a, b, c, rfl, p, e, x, y, z, rfl, rfl, rfl, h1, h2, hp, h⟩ := h
  obtain ⟨o0, e0, ho0⟩ := hp
  walk_at "st"
  refine ⟨by omega, by omega, fun _ q hq => ?_⟩
  have hpq : p ≠ q := ne_of_fresh e0 hq
  have hl : (rangeD 0 ((e.2.1 : Int)).toNat).length = e.2.1 := by simp [rangeD]
  generalize rangeD 0 ((e.2.1 : Int)).toNat = its at hl
  refine lc_ind (fun its acc M3 => ∃ (o3 : DO), DrO o3 ∧ M3 = mput (mput M p o3) q (.lst acc) ∧ acc.length + its.length = e.2.1 ∧ ∀ v ∈ acc, v ∈ [x, y, z]) ?_ ?_ _ _ _ ⟨o0, ho0, by rw [mput_self e0], by simpa using hl, by simp⟩
  · rintro acc M3 ⟨o3, ho3, rfl, f1, f2⟩
    refine ⟨srcV_none, ?_⟩
    have f1' : acc.length = e.2.1 := by simpa using f1
    rw [mdel_mput (mput_fresh hpq hq)]
    refine ⟨by omega, by omega, fun _ q2 hq2 => ?_⟩
    have hpq2 : p ≠ q2 := ne_of_fresh mput_same hq2
    have hqM2 : M q2 = none := by
      rw [mput_ne hpq2.symm] at hq2
      exact hq2
    have hl2 : (rangeD 0 ((e.2.2 : Int)).toNat).length = e.2.2 := by simp [rangeD]
    generalize rangeD 0 ((e.2.2 : Int)).toNat = its2 at hl2
    refine lc_ind (fun its ac2 M3 => ∃ (o4 : DO), DrO o4 ∧ M3 = mput (mput M p o4) q2 (.lst ac2) ∧ ac2.length + its.length = e.2.2 ∧ ∀ v ∈ ac2, v ∈ [x, y, z]) ?_ ?_ _ _ _ ⟨o3, ho3, rfl, by simpa using hl2, by simp⟩
    · rintro ac2 M3 ⟨o4, ho4, rfl, g1, g2⟩
      refine ⟨srcV_none, ?_⟩
      have g1' : ac2.length = e.2.2 := by simpa using g1
      rw [mdel_mput (mput_fresh hpq2 hqM2)]
      refine ⟨by omega, ret_of (h o4 _ ho4 (by rw [List.length_append, f1', g1']) fun v hv => ?_)⟩
      rcases List.mem_append.mp hv with hv | hv
      · exact f2 v hv
      · exact g2 v hv
    · rintro d its ac2 M3 Cn hC ⟨o4, ho4, rfl, g1, g2⟩
      refine ⟨srcV_none, ?_⟩
      rw [List.length_cons] at g1
      walk_at "s1"
      refine ⟨dr_ne (dr_put ho4) hpq2, fun o5 v ho5 hv => ?_⟩
      rw [mput_swap hpq2]
      refine ⟨mput_same, ?_⟩
      rw [mput_mput]
      refine hC _ _ ⟨o5, ho5, rfl, by rw [List.length_append, List.length_singleton]; omega, fun u hu => ?_⟩
      rcases List.mem_append.mp hu with hu | hu
      · exact g2 u hu
      · rw [List.mem_singleton.mp hu]
        exact hv
  · rintro d its acc M3 Cn hC ⟨o3, ho3, rfl, f1, f2⟩
    refine ⟨srcV_none, ?_⟩
    rw [List.length_cons] at f1
    walk_at "s1"
    refine ⟨dr_ne (dr_put ho3) hpq, fun o4 r ho4 r0 r1 => ?_⟩
    obtain ⟨v, hv, hat⟩ := atI_lt (xs := [x, y, z]) r0 (by show r < 3; omega)
    refine ⟨v, hat, ?_⟩
    rw [mput_swap hpq]
    refine ⟨mput_same, ?_⟩
    rw [mput_mput]
    refine hC _ _ ⟨o4, ho4, rfl, by rw [List.length_append, List.length_singleton]; omega, fun u hu => ?_⟩
    rcases List.mem_append.mp hu with hu | hu
    · exact f2 u hu
    · rw [List.mem_singleton.mp hu]
      exact hv
theorem nodup_le {α : Type} [DecidableEq α] : ∀ {as us : List α}, as.Nodup → (∀ a ∈ as, a ∈ us) → as.length ≤ us.length
  | [], _, _, _ => Nat.zero_le _
  | a :: as, us, h, k => by
    have ha : a ∈ us := k a (by simp)
    have := nodup_le (us := us.erase a) (List.nodup_cons.mp h).2 fun b hb => (List.mem_erase_of_ne fun e => (List.nodup_cons.mp h).1 (by rw [← e]; exact hb)).mpr (k b (by simp [hb]))
    rw [List.length_erase_of_mem ha] at this
    have := List.length_pos_of_mem ha
    rw [List.length_cons]
    omega
/-- one of many numbers is not among few -/
theorem fresh_num (n : Nat) (us : List Int) (h : us.length < n) : ((List.range n).filter fun k : Nat => decide ((1 + (k : Int)) ∉ us)) ≠ [] := fun e => by
  have h1 := nodup_le (as := (List.range n).map fun k : Nat => (1 + (k : Int))) (us := us) ?_ fun a ha => ?_
  · rw [List.length_map, List.length_range] at h1
    omega
  · rw [List.nodup_iff_pairwise_ne, List.pairwise_map]
    exact (List.nodup_iff_pairwise_ne.mp List.nodup_range).imp fun h z => h (by omega)
  · obtain ⟨k, hk, rfl⟩ := List.mem_map.mp ha
    have := List.filter_eq_nil_iff.mp e k hk
    simpa using this
theorem keyL_in {sc : List Ent} {e : Ent} (h : e ∈ sc) (vs : List D) : (keyL sc e.1 vs).isSome = true := by
  unfold keyL
  rw [Option.isSome_map]
  exact List.find?_isSome.mpr ⟨e, h, decide_eq_true rfl⟩
theorem isV_of {x y z : D} (hx : isV x) (hy : isV y) (hz : isV z) : ∀ v ∈ [x, y, z], isV v := fun v hv => by
  simp only [List.mem_cons, List.not_mem_nil, or_false] at hv
  rcases hv with rfl | rfl | rfl
  · exact hx
  · exact hy
  · exact hz
abbrev sp_l_clash : DSp := ar3 fun a b c M Q => ∃ (sc : List Ent) (v o : Vd), a = .tup (sc.map enE) ∧ b = vdD v ∧ c = vdD o ∧ (∀ e ∈ sc, PyData.strOk e.1 = true) ∧ VdOk sc v ∧ VdOk sc o ∧ ∀ k : Bool, Q (.bl k) M
theorem ok_l_clash (F : Def K mg "_law_clash" s_l_clash ["schema", "verdict", "other"]) (B : Bi K mg) (I : Im mg) (c_l_meet : Cal P w K mg base 2 "_law_meet" ["span", "other"] sp_l_meet) (c_l_key_of : Cal P w K mg base 1 "_law_key_of" ["schema", "name", "row"] sp_l_key_of) : Cal P w K mg base 3 "_law_clash" ["schema", "verdict", "other"] sp_l_clash := by
  have sc := sc_l_clash
  refine F.cal sc (fun ds M Q h => len3 h) (fun f cdv A outer s H E hr => (ds_cons (ds_if (dt_w (dw_or (dt_cmp (o_ne (hu_eq hr)) (d_ix x_ix (d_v 1) d_int (fun _ _ => rfl)) (d_ix x_ix (d_v 2) d_int (fun _ _ => rfl)) (nomark _)) (dw_or (dt_cmp (o_eq (hu_eq hr)) (d_ix x_ix (d_v 1) d_int (fun _ _ => rfl)) (d_ix x_ix (d_v 2) d_int (fun _ _ => rfl)) (nomark _)) (dw_or1 (dt_not (dt_val (d_call c_l_meet (hr.mono (by first | decide | omega)) rfl (da_cons (d_ix x_ix (d_v 1) d_int (fun _ _ => rfl)) (da_cons (d_ix x_ix (d_v 2) d_int (fun _ _ => rfl)) da_nil)))))))))
    (ds_one (ds_ret d_bl))
    ds_nil)
    (ds_one (ds_ret (d_cmp (o_eq (hu_eq hr)) (d_call c_l_key_of (hr.mono (by first | decide | omega)) rfl (da_cons (d_v 0) (da_cons (d_ix x_ix (d_v 1) d_int (fun _ _ => rfl)) (da_cons (d_ix x_ix (d_v 1) d_int (fun _ _ => rfl)) da_nil)))) (d_call c_l_key_of (hr.mono (by first | decide | omega)) rfl (da_cons (d_v 0) (da_cons (d_ix x_ix (d_v 2) d_int (fun _ _ => rfl)) (da_cons (d_ix x_ix (d_v 2) d_int (fun _ _ => rfl)) da_nil)))) (nomark _)))))) (fun ds M Q h => ?_)
  obtain ⟨a, b, c, rfl, sc, v, o, rfl, rfl, rfl, hs, hv, ho, h⟩ := h
  obtain ⟨k1, hk1⟩ := Option.isSome_iff_exists.mp hv.key
  obtain ⟨k2, hk2⟩ := Option.isSome_iff_exists.mp ho.key
  have i1 := keyL_isV hv.row hk1
  have i2 := keyL_isV ho.row hk2
  walk_at "st"
  refine ⟨hv.nm, ho.nm, ?_⟩
  split
  · exact ret_of (h _)
  · refine ⟨row_ok hv.row 63, row_ok ho.row 63, ?_⟩
    split
    · exact ret_of (h _)
    · refine ⟨⟨_, rfl⟩, ⟨_, rfl⟩, fun k => ?_⟩
      split
      · exact ret_of (h _)
      · refine ⟨sc, rfl, hv.nm, hs, sc, rfl, ho.nm, hs, ?_⟩
        rw [hk1, hk2]
        exact ⟨row_ok i1 63, row_ok i2 63, ret_of (h _)⟩
abbrev sp_l_number : DSp := ar1 fun a M Q => ∃ v : Vd, a = vdD v ∧ Q (.int v.1) M
theorem ok_l_number (F : Def K mg "_law_number" s_l_number ["part"]) (B : Bi K mg) (I : Im mg)  : Cal P w K mg base 1 "_law_number" ["part"] sp_l_number := by
  have sc := sc_l_number
  refine F.cal sc (fun ds M Q h => len1 h) (fun f cdv A outer s H E hr => (ds_one (ds_ret (d_ix x_ix (d_v 0) d_int (fun _ _ => rfl))))) (fun ds M Q h => ?_)
  obtain ⟨a, rfl, v, rfl, h⟩ := h
  walk_at "rd"
  exact ret_of h
abbrev sp_l_trust : DSp := ar2 fun a b M Q => ∃ (p : Addr) (ws : List Str), a = .ref p ∧ b = .lst (ws.map D.str) ∧ Dr M p ∧ ws.length ≤ 100 ∧ (∀ w ∈ ws, PyData.strOk w = true) ∧ ∀ (o : DO) (tr : List (Str × Int)), DrO o → Q (.tup (tr.map fun t => D.tup [.str t.1, .int t.2])) (mput M p o)
theorem ok_l_trust (F : Def K mg "_law_trust" s_l_trust ["draws", "sources"]) (B : Bi K mg) (I : Im mg) (c_l_take : Cal P w K mg base 1 "_law_take" ["draws", "many"] sp_l_take) : Cal P w K mg base 2 "_law_trust" ["draws", "sources"] sp_l_trust := by
  have sc := sc_l_trust
  refine F.cal sc (fun ds M Q h => len2 h) (fun f cdv A outer s H E hr => (ds_cons (ds_set (i := 2) sc.nd rfl (Or.inl rfl) (d_lst da_nil))
    (ds_cons (ds_for PassesOwn.never rfl (di_seq (d_fz (d_cb (c_sortD (hu_40 hr)) rfl B.b_sorted boot_sorted (da_cons (d_v 1) da_nil)))) (dg_name (i := 3) sc.nd rfl (Or.inl rfl))
    (ds_cons (ds_set (i := 4) sc.nd rfl (Or.inl rfl) (d_op o_add (d_op o_add d_int (d_call c_l_take (hr.mono (by first | decide | omega)) rfl (da_cons (d_v 0) (da_cons d_int da_nil)))) (d_op o_mul (d_op o_pow d_int d_int) (d_ct c_int rfl B.b_int boot_int (da_cons (d_cmp (o_eq (hu_eq hr)) (d_call c_l_take (hr.mono (by first | decide | omega)) rfl (da_cons (d_v 0) (da_cons d_int da_nil))) d_int (nomark _)) da_nil)))))
    (ds_one (ds_if (dt_cmp (o_eq (hu_eq hr)) (d_call c_l_take (hr.mono (by first | decide | omega)) rfl (da_cons (d_v 0) (da_cons d_int da_nil))) d_int (nomark _))
    (ds_one (ds_expr (d_mt PySem.F.slot_list_append PySem.F.type_list_append m_append (d_v 2) (da_cons (d_tup (da_cons (d_v 3) (da_cons (d_v 4) da_nil))) da_nil))))
    ds_nil))))
    (ds_one (ds_ret (d_ct c_tuple rfl B.b_tuple boot_tuple (da_cons (d_v 2) da_nil))))))) (fun ds M Q h => ?_)
  obtain ⟨a, b, rfl, p, ws, rfl, rfl, hp, hl, hok, h⟩ := h
  obtain ⟨o0, e0, ho0⟩ := hp
  walk_at "st"
  intro q hq
  have hpq : p ≠ q := ne_of_fresh e0 hq
  walk_at "st"
  refine ⟨strs_ok hok, strs_alike ws, strs_sortable ws, fun p1 hp1 => ?_⟩
  obtain ⟨us, hus, hperm⟩ := sort_strs ws
  refine ⟨_, rfl, fun _ => ?_⟩
  rw [mdel_mput hp1, hus]
  refine for_ind (fun items m1 M1 => ∃ (o : DO) (rest : List Str) (tr : List (Str × Int)) (x3 x4 : Option D), items = rest.map D.str ∧ tr.length + rest.length ≤ 100 ∧ (∀ w ∈ rest, PyData.strOk w = true) ∧ DrO o ∧ M1 = mput (mput M p o) q (.lst (tr.map fun t => D.tup [.str t.1, .int t.2])) ∧ m1 = [some (.ref p), some (.lst (ws.map D.str)), some (.ref q), x3, x4]) ?_ ?_ _ _ _ ⟨o0, us, [], _, _, rfl, by rw [hperm.length_eq]; simp; omega, fun w m => hok w (hperm.mem_iff.mp m), ho0, by rw [mput_self e0]; rfl, rfl⟩
  · rintro m1 M1 ⟨o, rest, tr, x3, x4, hi, htl, _, ho, rfl, rfl⟩
    refine ⟨srcV_none, ?_⟩
    clear hi
    walk_at "rd"
    exact ret_le (MLe.put (.refl _) (mput_fresh hpq hq)) (h o tr ho)
  · rintro d items m1 M1 Cn hC ⟨o, rest, tr, x3, x4, hi, htl, hrest, ho, rfl, rfl⟩
    refine ⟨srcV_none, ?_⟩
    cases rest with
    | nil => cases hi
    | cons w rest =>
      rw [List.map_cons] at hi
      injection hi with h1 h2
      subst h1
      subst h2
      rw [List.length_cons] at htl
      walk_at "st"
      refine ⟨dr_ne (dr_put ho) hpq, fun o2 r2 ho2 _ _ => ?_⟩
      rw [mput_swap hpq]
      refine ⟨dr_ne (dr_put ho2) hpq, fun o3 r3 ho3 _ _ => ⟨.inr (.inl ⟨by split <;> omega, by split <;> omega⟩), ?_⟩⟩
      rw [mput_swap hpq]
      refine ⟨dr_ne (dr_put ho3) hpq, fun o4 r4 ho4 _ _ => ?_⟩
      rw [mput_swap hpq]
      split
      · refine ⟨⟨_, by rw [mput_same]⟩, _, mput_same, by rw [List.length_map]; omega, ?_⟩
        rw [mput_mput]
        refine fg_of (hC _ _ ⟨o4, rest, tr ++ [(w, _)], _, _, rfl, by rw [List.length_append, List.length_singleton]; omega, fun u hu => hrest u (by simp [hu]), ho4, by rw [List.map_append]; rfl, rfl⟩)
      · exact fg_of (hC _ _ ⟨o4, rest, tr, _, _, rfl, by omega, fun u hu => hrest u (by simp [hu]), ho4, rfl, rfl⟩)
abbrev sp_l_reports : DSp := ar6 fun a b c d e f M Q => ∃ (p : Addr) (sc : List Ent) (x y z : D) (ws : List Str) (n : Nat) (g : Int), a = .ref p ∧ b = .tup (sc.map enE) ∧ c = .lst [x, y, z] ∧ d = .lst (ws.map D.str) ∧ e = .int n ∧ f = .int g ∧ Dr M p ∧ 0 < n ∧ n ≤ 8 ∧ 0 < g ∧ isV x ∧ isV y ∧ isV z ∧ ws ≠ [] ∧ (∀ w ∈ ws, PyData.strOk w = true) ∧ (∀ e ∈ sc, enOk e) ∧ (∃ e ∈ sc, 0 < e.2.2) ∧
  ∀ (o : DO) (rs : List Rp) (l : Rp), DrO o → rs.length < n → (∀ r ∈ rs ++ [l], RpOk sc r) → ((rs.length : Nat) : Int) + 1 ≤ l.1 → l.1 ≤ 2 * n → Q (.lst ((rs ++ [l]).map rpD)) (mput M p o)
theorem ok_l_reports (F : Def K mg "_law_reports" s_l_reports ["draws", "schema", "values", "sources", "many", "great"]) (B : Bi K mg) (I : Im mg) (c_l_take : Cal P w K mg base 1 "_law_take" ["draws", "many"] sp_l_take) (c_l_pick : Cal P w K mg base 2 "_law_pick" ["draws", "row"] sp_l_pick) (c_l_span : Cal P w K mg base 2 "_law_span" ["draws", "great"] sp_l_span) (c_l_drawn_row : Cal P w K mg base 3 "_law_drawn_row" ["draws", "table", "values"] sp_l_drawn_row) : Cal P w K mg base 4 "_law_reports" ["draws", "schema", "values", "sources", "many", "great"] sp_l_reports := by
  have sc := sc_l_reports
  refine F.cal sc (fun ds M Q h => len6 h) (fun f cdv A outer s H E hr => (ds_cons (ds_set (i := 6) sc.nd rfl (Or.inl rfl) (d_lst da_nil))
    (ds_cons (ds_set (i := 7) sc.nd rfl (Or.inl rfl) d_int)
    (ds_cons (ds_setLcF (i := 9) rfl sc.nd rfl rfl (sw_true rfl rfl rfl (by decide +kernel)) (own := [("table", 8)]) (di_seq (d_v 1)) (blkOk_by (N := N_l_reports) (sc := defScope s_l_reports) (by decide +kernel)) (by decide) (fun _ _ _ _ _ => (dg_name (i := 8) sc.nd rfl (Or.inl rfl))) (fun _ _ _ _ _ => (dts_one (dt_cmp o_gt (d_ix x_ix (d_v 8) d_int (fun _ _ => rfl)) d_int (nomark _)))) (fun _ _ _ _ _ => (d_v 8)))
    (ds_cons (ds_for PassesOwn.never rfl (di_range1 rfl B.b_range (da_cons (d_op o_add d_int (d_call c_l_take (hr.mono (by first | decide | omega)) rfl (da_cons (d_v 0) (da_cons (d_v 4) da_nil)))) da_nil)) (dg_name (i := 10) sc.nd rfl (Or.inl rfl))
    (ds_cons (ds_set (i := 7) sc.nd rfl (Or.inl rfl) (d_op o_add (d_op o_add (d_v 7) d_int) (d_ct c_int rfl B.b_int boot_int (da_cons (d_cmp (o_eq (hu_eq hr)) (d_call c_l_take (hr.mono (by first | decide | omega)) rfl (da_cons (d_v 0) (da_cons d_int da_nil))) d_int (nomark _)) da_nil))))
    (ds_cons (ds_set (i := 8) sc.nd rfl (Or.inl rfl) (d_call c_l_pick (hr.mono (by first | decide | omega)) rfl (da_cons (d_v 0) (da_cons (d_ix x_ix (d_lstF (da_cons (d_v 9) (da_cons (d_v 9) (da_cons (d_v 9) (da_cons (d_fz (d_ct c_list rfl B.b_list boot_list (da_cons (d_v 1) da_nil))) da_nil))))) (d_call c_l_take (hr.mono (by first | decide | omega)) rfl (da_cons (d_v 0) (da_cons d_int da_nil))) (fun _ _ => rfl)) da_nil))))
    (ds_cons (ds_set (i := 11) sc.nd rfl (Or.inl rfl) (d_call c_l_drawn_row (hr.mono (by first | decide | omega)) rfl (da_cons (d_v 0) (da_cons (d_v 8) (da_cons (d_v 2) da_nil)))))
    (ds_one (ds_expr (d_mt PySem.F.slot_list_append PySem.F.type_list_append m_append (d_v 6) (da_cons (d_tup (da_cons (d_v 7) (da_cons (d_call c_l_pick (hr.mono (by first | decide | omega)) rfl (da_cons (d_v 0) (da_cons (d_v 3) da_nil))) (da_cons (d_ix x_ix (d_v 8) d_int (fun _ _ => rfl)) (da_cons (d_v 11) (da_cons (d_call c_l_span (hr.mono (by first | decide | omega)) rfl (da_cons (d_v 0) (da_cons (d_v 5) da_nil))) da_nil)))))) da_nil))))))))
    (ds_one (ds_ret (d_fz (d_v 6))))))))) (fun ds M Q h => ?_)
  obtain ⟨a, b, c, d, e, f, rfl, p, sc, x, y, z, ws, n, g, rfl, rfl, rfl, rfl, rfl, rfl, hp, hn0, hn, hg, hx, hy, hz, hws, hwo, hsc, hri, h⟩ := h
  obtain ⟨o0, e0, ho0⟩ := hp
  walk_at "st"
  intro q hq
  have hpq : p ≠ q := ne_of_fresh e0 hq
  walk_at "st"
  walk_at "st"
  intro _
  refine lc_pure sc enE (fun e => decide (0 < e.2.2)) enE rfl srcV_none (fun e he M5 l5 C1 C2 h5 h6 => ?_) fun r hr => ?_
  · walk_at "s1"
    split
    · next c => exact h5 (decide_eq_true (by omega))
    · next c => exact h6 (decide_eq_false (by omega))
  obtain ⟨rs, ers⟩ : ∃ rs, rs = sc.filter (fun e => decide (0 < e.2.2)) := ⟨_, rfl⟩
  have hrs : ∀ e ∈ rs, e ∈ sc := fun e he => by rw [ers] at he; exact (List.mem_filter.mp he).1
  have hrn : rs ≠ [] := by
    obtain ⟨e, he, hp⟩ := hri
    exact List.ne_nil_of_mem (a := e) (by rw [ers]; exact List.mem_filter.mpr ⟨he, decide_eq_true hp⟩)
  rw [← ers]
  clear ers
  walk_at "st"
  rw [mdel_mput hr]
  refine ⟨dr_ne ⟨o0, e0, ho0⟩ hpq, by omega, fun o1 r1 ho1 r10 r11 => ⟨by omega, by omega, fun _ => ?_⟩⟩
  rw [show mput (mput M q (.lst [])) p o1 = mput (mput M p o1) q (.lst []) from (mput_comm hpq.symm)]
  have hl2 : (rangeD 0 (1 + r1).toNat).length = (1 + r1).toNat := by simp [rangeD]
  generalize rangeD 0 (1 + r1).toNat = items at hl2
  refine for_ind (fun items m1 M1 => ∃ (o : DO) (us : List Rp) (k : Int) (x8 x10 x11 : Option D), DrO o ∧ us.length + items.length ≤ n ∧ 0 < us.length + items.length ∧ (∀ u ∈ us, RpOk sc u) ∧ (∀ l, us.getLast? = some l → l.1 = k) ∧ us.length ≤ k ∧ k ≤ 2 * us.length ∧ M1 = mput (mput M p o) q (.lst (us.map rpD)) ∧ m1 = [some (.ref p), some (.tup (sc.map enE)), some (.lst [x, y, z]), some (.lst (ws.map D.str)), some (.int n), some (.int g), some (.ref q), some (.int k), x8, some (.lst (rs.map enE)), x10, x11]) ?_ ?_ _ _ _ ⟨o1, [], 0, _, _, _, ho1, by simp; omega, by simp; omega, by simp, by simp, by simp, by simp, rfl, rfl⟩
  · rintro m1 M1 ⟨o, us, k, x8, x10, x11, ho, hul, hu0, hus, hlst, hk0, hk1, rfl, rfl⟩
    refine ⟨srcV_none, ?_⟩
    walk_at "rd"
    refine ⟨_, rfl, ?_⟩
    rw [mdel_mput (mput_fresh hpq hq)]
    have hul' : us.length ≤ n := by simpa using hul
    cases e : us.getLast? with
    | none =>
      rw [List.getLast?_eq_none_iff.mp e] at hu0
      simp at hu0
    | some l =>
      have := hlst l e
      obtain ⟨pre, rfl⟩ := List.getLast?_eq_some_iff.mp e
      rw [List.length_append, List.length_singleton] at hul' hk0 hk1
      exact ret_of (h o pre l ho (by omega) hus (by omega) (by omega))
  · rintro d items m1 M1 Cn hC ⟨o, us, k, x8, x10, x11, ho, hul, hu0, hus, hlst, hk0, hk1, rfl, rfl⟩
    refine ⟨srcV_none, ?_⟩
    rw [List.length_cons] at hul
    walk_at "st"
    refine ⟨dr_ne (dr_put ho) hpq, fun o2 r2 ho2 _ _ => ?_⟩
    rw [mput_swap hpq]
    walk_at "st"
    intro p3 hp3
    refine ⟨sc.map enE, rfl, ?_⟩
    simp only [mdel_mput hp3]
    refine ⟨dr_ne (dr_put ho2) hpq, fun o3 r3 ho3 r30 r31 => ?_⟩
    rw [mput_swap hpq]
    obtain ⟨row, hat, hrn, hrow⟩ : ∃ row : List Ent, atI [D.lst (rs.map enE), D.lst (rs.map enE), D.lst (rs.map enE), D.lst (sc.map enE)] r3 = some (.lst (row.map enE)) ∧ row ≠ [] ∧ ∀ e ∈ row, e ∈ sc := by
      rcases (by omega : r3 = 0 ∨ r3 = 1 ∨ r3 = 2 ∨ r3 = 3) with rfl | rfl | rfl | rfl
      · exact ⟨rs, rfl, hrn, hrs⟩
      · exact ⟨rs, rfl, hrn, hrs⟩
      · exact ⟨rs, rfl, hrn, hrs⟩
      · refine ⟨sc, rfl, fun z => ?_, fun _ h => h⟩
        obtain ⟨e, he, _⟩ := hri
        rw [z] at he
        cases he
    refine ⟨_, hat, row.map enE, rfl, (fun z => nomatch z), dr_ne (dr_put ho3) hpq, fun z => hrn (List.map_eq_nil_iff.mp z), fun o4 d4 ho4 hd4 => ?_⟩
    obtain ⟨e, he, rfl⟩ := List.mem_map.mp hd4
    have hes := hsc e (hrow e he)
    rw [mput_swap hpq]
    obtain ⟨k', hk'⟩ : ∃ k' : Int, k' = k + 1 + (if r2 = 0 then 1 else 0) := ⟨_, rfl⟩
    have hkb : k + 1 ≤ k' ∧ k' ≤ k + 2 := by rw [hk']; split <;> omega
    rw [← hk']
    clear hk'
    walk_at "rd"
    refine ⟨e, rfl, by have := hes.2; omega, by have := hes.2; omega, dr_ne (dr_put ho4) hpq, fun o5 vs ho5 hvl hvm => ?_⟩
    rw [mput_swap hpq]
    refine ⟨⟨_, by rw [mput_same]⟩, dr_ne (dr_put ho5) hpq, fun z => hws (List.map_eq_nil_iff.mp z), fun o6 s6 ho6 hs6 => ?_⟩
    obtain ⟨src, hsrc, rfl⟩ := List.mem_map.mp hs6
    rw [mput_swap hpq]
    refine ⟨hg, dr_ne (dr_put ho6) hpq, fun o7 s ss ho7 hss hcan => ?_⟩
    rw [mput_swap hpq]
    refine ⟨_, mput_same, by rw [List.length_map]; omega, ?_⟩
    rw [mput_mput]
    refine fg_of (hC _ _ ⟨o7, us ++ [(k', src, e.1, vs, s :: ss)], k', _, _, _, ho7, by rw [List.length_append, List.length_singleton]; omega, by rw [List.length_append, List.length_singleton]; omega, fun u hu => ?_, fun l hl => ?_, by rw [List.length_append, List.length_singleton]; omega, by rw [List.length_append, List.length_singleton]; omega, by rw [List.map_append]; rfl, rfl⟩)
    · rcases List.mem_append.mp hu with hu | hu
      · exact hus u hu
      · rw [List.mem_singleton.mp hu]
        exact ⟨hwo src hsrc, hes.1, fun v hv => isV_of hx hy hz v (hvm v hv), keyL_in (hrow e he) _, hcan, by show (s :: ss).length ≤ 20; rw [List.length_cons]; omega⟩
    · rw [List.getLast?_append, List.getLast?_singleton] at hl
      cases hl
      rfl
def vnum : D → D
  | .tup (n :: _) => n
  | d => d
section
open PySem.W (AllAlike Sortable alike alikeAll)
theorem nums_alike (vs : List Vd) : AllAlike (((vs.map vdD).map vnum).map D.py) := by
  intro d hd d' hd'
  simp only [List.mem_map] at hd hd'
  obtain ⟨_, ⟨_, ⟨e, _, rfl⟩, rfl⟩, rfl⟩ := hd
  obtain ⟨_, ⟨_, ⟨f, _, rfl⟩, rfl⟩, rfl⟩ := hd'
  simp [vnum, vdD, D.py, alike]
theorem nums_sort (vs : List Vd) : SortOk (((vs.map vdD).map vnum).map D.py) := by
  refine .inl (.inr fun d hd => ?_)
  simp only [List.mem_map] at hd
  obtain ⟨_, ⟨_, ⟨e, _, rfl⟩, rfl⟩, rfl⟩ := hd
  simp [vnum, vdD, D.py]
end
/-- what is told, and something is -/
abbrev sp_l_told : DSp := ar6 fun a b c d e f M Q => ∃ (p : Addr) (sc : List Ent) (x y z : D) (ws : List Str) (n : Nat) (g : Int), a = .ref p ∧ b = .tup (sc.map enE) ∧ c = .lst [x, y, z] ∧ d = .lst (ws.map D.str) ∧ e = .int n ∧ f = .int g ∧ Dr M p ∧ 0 < n ∧ n ≤ 8 ∧ 0 < g ∧ isV x ∧ isV y ∧ isV z ∧ ws ≠ [] ∧ ws.length ≤ 100 ∧ (∀ w ∈ ws, PyData.strOk w = true) ∧ (∀ e ∈ sc, enOk e) ∧ (∃ e ∈ sc, 0 < e.2.2) ∧
  ∀ (o : DO) (t : Td), DrO o → TdOk sc t → t.1 ≠ [] → t.1.length ≤ n → t.2.1.length ≤ 5 → Q (tdD t) (mput M p o)
theorem ok_l_told (F : Def K mg "_law_told" s_l_told ["draws", "schema", "values", "sources", "most", "great"]) (B : Bi K mg) (I : Im mg) (c_l_take : Cal P w K mg base 1 "_law_take" ["draws", "many"] sp_l_take) (c_l_pick : Cal P w K mg base 2 "_law_pick" ["draws", "row"] sp_l_pick) (c_l_span : Cal P w K mg base 2 "_law_span" ["draws", "great"] sp_l_span) (c_l_drawn_row : Cal P w K mg base 3 "_law_drawn_row" ["draws", "table", "values"] sp_l_drawn_row) (c_l_reports : Cal P w K mg base 4 "_law_reports" ["draws", "schema", "values", "sources", "many", "great"] sp_l_reports) (c_l_clash : Cal P w K mg base 3 "_law_clash" ["schema", "verdict", "other"] sp_l_clash) (c_l_number : Cal P w K mg base 1 "_law_number" ["part"] sp_l_number) (c_l_trust : Cal P w K mg base 2 "_law_trust" ["draws", "sources"] sp_l_trust) : Cal P w K mg base 7 "_law_told" ["draws", "schema", "values", "sources", "most", "great"] sp_l_told := by
  have sc := sc_l_told
  refine F.cal sc (fun ds M Q h => len6 h) (fun f cdv A outer s H E hr => (ds_cons (ds_set (i := 6) sc.nd rfl (Or.inl rfl) (d_call c_l_reports (hr.mono (by first | decide | omega)) rfl (da_cons (d_v 0) (da_cons (d_v 1) (da_cons (d_v 2) (da_cons (d_v 3) (da_cons (d_v 4) (da_cons (d_v 5) da_nil))))))))
    (ds_cons (ds_set (i := 7) sc.nd rfl (Or.inl rfl) (d_lst da_nil))
    (ds_cons (ds_set (i := 8) sc.nd rfl (Or.inr rfl) (d_lc rfl sc.nd (own := [("report", 16)]) (di_seq (d_v 6)) (blkOk_by (N := N_l_told) (sc := defScope s_l_told) (by decide +kernel)) (by decide) (fun _ _ _ _ _ => (dg_name (i := 16) sc.nd rfl (Or.inl rfl))) (fun _ _ _ _ _ => dts_nil) (fun _ _ _ _ _ => (d_ix x_ix (d_v 16) d_int (fun _ _ => rfl)))))
    (ds_cons (ds_set (i := 9) sc.nd rfl (Or.inl rfl) (d_ix x_ix (d_lstF (da_cons d_int (da_cons d_int (da_cons d_int (da_cons d_int da_nil))))) (d_call c_l_take (hr.mono (by first | decide | omega)) rfl (da_cons (d_v 0) (da_cons d_int da_nil))) (fun _ _ => rfl)))
    (ds_cons (ds_if (dt_w (dw_and (dt_cmp (o_eq (hu_eq hr)) (d_v 9) d_int (nomark _)) (dw_and1 (dt_cmp o_lt (d_cb c_len rfl B.b_len boot_len (da_cons (d_v 6) da_nil)) d_int (nomark _)))))
    (ds_one (ds_set (i := 9) sc.nd rfl (Or.inl rfl) d_int))
    ds_nil)
    (ds_cons (ds_for PassesOwn.never rfl (di_range1 rfl B.b_range (da_cons (d_v 9) da_nil)) (dg_name (i := 10) sc.nd rfl (Or.inl rfl))
    (ds_cons (ds_set (i := 11) sc.nd rfl (Or.inl rfl) (d_call c_l_pick (hr.mono (by first | decide | omega)) rfl (da_cons (d_v 0) (da_cons (d_lcF rfl sc.nd (own := [("n", 17)]) (di_range2 rfl B.b_range (da_cons d_int (da_cons (d_op o_add (d_ix x_ix (d_ix x_ix (d_v 6) (d_neg d_int) (fun _ _ => rfl)) d_int (fun _ _ => rfl)) d_int) da_nil))) (blkOk_by (N := N_l_told) (sc := defScope s_l_told) (by decide +kernel)) (by decide) (fun _ _ _ _ _ => (dg_name (i := 17) sc.nd rfl (Or.inl rfl))) (fun _ _ _ _ _ => (dts_one (dt_cmp (o_notin (hu_in hr)) (d_v 17) (d_v 8) rfl))) (fun _ _ _ _ _ => (d_v 17))) da_nil))))
    (ds_cons (ds_expr (d_mt PySem.F.slot_list_append PySem.F.type_list_append m_append (d_v 8) (da_cons (d_v 11) da_nil)))
    (ds_cons (ds_set (i := 12) sc.nd rfl (Or.inr rfl) (d_call c_l_pick (hr.mono (by first | decide | omega)) rfl (da_cons (d_v 0) (da_cons (d_v 6) da_nil))))
    (ds_cons (ds_set (i := 13) sc.nd rfl (Or.inl rfl) (d_ix x_ix (d_lcF rfl sc.nd (own := [("table", 13)]) (di_seq (d_v 1)) (blkOk_by (N := N_l_told) (sc := defScope s_l_told) (by decide +kernel)) (by decide) (fun _ _ _ _ _ => (dg_name (i := 13) sc.nd rfl (Or.inl rfl))) (fun _ _ _ _ _ => (dts_one (dt_cmp (o_eq (hu_eq hr)) (d_ix x_ix (d_v 13) d_int (fun _ _ => rfl)) (d_ix x_ix (d_v 12) d_int (fun _ _ => rfl)) (nomark _)))) (fun _ _ _ _ _ => (d_v 13))) d_int (fun _ _ => rfl)))
    (ds_cons (ds_set (i := 14) sc.nd rfl (Or.inl rfl) (d_ix x_ix (d_lstF (da_cons (d_ix x_ix (d_v 12) d_int (fun _ _ => rfl)) (da_cons (d_ix x_ix (d_v 12) d_int (fun _ _ => rfl)) (da_cons (d_call c_l_drawn_row (hr.mono (by first | decide | omega)) rfl (da_cons (d_v 0) (da_cons (d_v 13) (da_cons (d_v 2) da_nil)))) da_nil)))) (d_call c_l_take (hr.mono (by first | decide | omega)) rfl (da_cons (d_v 0) (da_cons d_int da_nil))) (fun _ _ => rfl)))
    (ds_cons (ds_set (i := 15) sc.nd rfl (Or.inr rfl) (d_tup (da_cons (d_v 11) (da_cons (d_ix x_ix (d_v 12) d_int (fun _ _ => rfl)) (da_cons (d_v 14) (da_cons (d_call c_l_span (hr.mono (by first | decide | omega)) rfl (da_cons (d_v 0) (da_cons (d_v 5) da_nil))) da_nil))))))
    (ds_one (ds_if (dt_cmp (o_notin (hu_in hr)) d_bl (d_lcF rfl sc.nd (own := [("other", 18)]) (di_seq (d_v 7)) (blkOk_by (N := N_l_told) (sc := defScope s_l_told) (by decide +kernel)) (by decide) (fun _ _ _ _ _ => (dg_name (i := 18) sc.nd rfl (Or.inl rfl))) (fun _ _ _ _ _ => dts_nil) (fun _ _ _ _ _ => (d_call c_l_clash (hr.mono (by first | decide | omega)) rfl (da_cons (d_v 1) (da_cons (d_v 15) (da_cons (d_v 18) da_nil)))))) rfl)
    (ds_one (ds_expr (d_mt PySem.F.slot_list_append PySem.F.type_list_append m_append (d_v 7) (da_cons (d_v 15) da_nil))))
    ds_nil)))))))))
    (ds_one (ds_ret (d_tup (da_cons (d_ct c_tuple rfl B.b_tuple boot_tuple (da_cons (d_v 6) da_nil)) (da_cons (d_ct c_tuple rfl B.b_tuple boot_tuple (da_cons (d_fz (d_sortK c_l_number (hr.mono (by first | decide | omega)).in1.in1 rfl rfl B.b_sorted (da_cons (d_v 7) da_nil))) da_nil)) (da_cons (d_call c_l_trust (hr.mono (by first | decide | omega)) rfl (da_cons (d_v 0) (da_cons (d_v 3) da_nil))) da_nil))))))))))))) (fun ds M Q h => ?_)
  obtain ⟨a, b, c, d, e, f, rfl, p, sc, x, y, z, ws, n, g, rfl, rfl, rfl, rfl, rfl, rfl, hp, hn0, hn, hg, hx, hy, hz, hws, hwl, hwo, hsc, hri, h⟩ := h
  walk_at "st"
  refine ⟨sc, rfl, ws, rfl, n, rfl, hp, hn0, hn, hg, hx, hy, hz, hws, hwo, hsc, hri, fun o1 rs l ho1 hrl hro l0 l1 => ?_⟩
  obtain ⟨rps, hrps⟩ : ∃ rps, rps = rs ++ [l] := ⟨_, rfl⟩
  have hrlen : rps.length ≤ n := by rw [hrps, List.length_append, List.length_singleton]; omega
  have hrl2 : (rps.length : Int) ≤ l.1 := by rw [hrps, List.length_append, List.length_singleton]; omega
  have hlast : (rps.map rpD).getLast? = some (rpD l) := by rw [hrps]; simp
  have hrne : rps ≠ [] := by rw [hrps]; simp
  rw [← hrps] at hro ⊢
  clear hrps hrl
  walk_at "st"
  intro q hq
  have hpq : p ≠ q := ne_of_fresh mput_same hq
  walk_at "st"
  intro _
  refine lc_map rps rpD (fun r => D.int r.1) rfl srcV_none (fun r hr M5 l5 C1 h5 => by walk_at "s1"; exact h5) fun u hu => ?_
  have hpu : p ≠ u := ne_of_fresh (by rw [mput_ne hpq]; exact mput_same) hu
  have hqu : q ≠ u := ne_of_fresh mput_same hu
  have huM : M u = none := by
    rw [mput_ne hqu.symm, mput_ne hpu.symm] at hu
    exact hu
  have hqM : M q = none := by
    rw [mput_ne hpq.symm] at hq
    exact hq
  rw [show rps.map (fun r => D.int r.1) = (rps.map (·.1)).map D.int from (List.map_map ..).symm]
  obtain ⟨u0, hu0⟩ : ∃ u0 : List Int, u0 = rps.map (·.1) := ⟨_, rfl⟩
  have hul0 : u0.length = rps.length := by rw [hu0, List.length_map]
  rw [← hu0]
  clear hu0
  have dr3 : ∀ {o A B}, DrO o → Dr (mput (mput (mput M p o) q A) u B) p := fun ho => dr_ne (dr_ne (dr_put ho) hpq) hpu
  have sw3 : ∀ {o A B o'}, mput (mput (mput (mput M p o) q A) u B) p o' = mput (mput (mput M p o') q A) u B := fun {o A B o'} => by rw [mput_comm hpu.symm, mput_swap hpq]
  have sq3 : ∀ {o A B A'}, mput (mput (mput (mput M p o) q A) u B) q A' = mput (mput (mput M p o) q A') u B := fun {o A B A'} => mput_swap hqu
  walk_at "st"
  refine ⟨dr3 ho1, fun o2 r2 ho2 r20 r21 => ?_⟩
  rw [sw3]
  obtain ⟨m0, hat, hm0⟩ : ∃ m0 : Nat, atI [D.int 0, D.int 0, D.int 1, D.int 2] r2 = some (.int m0) ∧ m0 ≤ 2 := by
    rcases (by omega : r2 = 0 ∨ r2 = 1 ∨ r2 = 2 ∨ r2 = 3) with rfl | rfl | rfl | rfl
    · exact ⟨0, rfl, by omega⟩
    · exact ⟨0, rfl, by omega⟩
    · exact ⟨1, rfl, by omega⟩
    · exact ⟨2, rfl, by omega⟩
  refine ⟨_, hat, ?_⟩
  refine seq_cut (fun m2 M2 => ∃ k : Nat, (k ≤ 2 ∨ k = 5 ∧ rps.length < 3) ∧ M2 = mput (mput (mput M p o2) q (.lst [])) u (.lst (u0.map D.int)) ∧ m2 = [some (.ref p), some (.tup (sc.map enE)), some (.lst [x, y, z]), some (.lst (ws.map D.str)), some (.int n), some (.int g), some (.lst (rps.map rpD)), some (.ref q), some (.ref u), some (.int k), none, none, none, none, none, none, none, none, none]) (fun Cn hC => ?_) ?_
  · walk_at "s1"
    rw [List.length_map]
    split
    · split
      · next c => exact hC _ _ ⟨5, .inr ⟨rfl, by omega⟩, rfl, rfl⟩
      · exact hC _ _ ⟨m0, .inl hm0, rfl, rfl⟩
    · exact hC _ _ ⟨m0, .inl hm0, rfl, rfl⟩
  rintro m2 M2 ⟨k, hk, rfl, rfl⟩
  clear hat
  walk_at "st"
  refine ⟨by omega, by omega, fun _ => ?_⟩
  have hl2 : (rangeD 0 ((k : Int)).toNat).length = k := by simp [rangeD]
  generalize rangeD 0 ((k : Int)).toNat = items at hl2
  refine for_ind (fun items m1 M1 => ∃ (o : DO) (vs : List Vd) (us : List Int) (x10 x11 x12 x13 x14 x15 x16 x17 x18 : Option D), DrO o ∧ vs.length + items.length ≤ k ∧ us.length + items.length = rps.length + k ∧ (∀ v ∈ vs, VdOk sc v) ∧ M1 = mput (mput (mput M p o) q (.lst (vs.map vdD))) u (.lst (us.map D.int)) ∧ m1 = [some (.ref p), some (.tup (sc.map enE)), some (.lst [x, y, z]), some (.lst (ws.map D.str)), some (.int n), some (.int g), some (.lst (rps.map rpD)), some (.ref q), some (.ref u), some (.int k), x10, x11, x12, x13, x14, x15, x16, x17, x18]) ?_ ?_ _ _ _ ⟨o2, [], u0, _, _, _, _, _, _, _, _, _, ho2, by simp; omega, by omega, by simp, rfl, rfl⟩
  · rintro m1 M1 ⟨o, vs, us, x10, x11, x12, x13, x14, x15, x16, x17, x18, ho, hvl, hul, hvs, rfl, rfl⟩
    refine ⟨srcV_none, ?_⟩
    walk_at "rd"
    have hMq : mput (mput (mput M p o) q (.lst (vs.map vdD))) u (.lst (us.map D.int)) q = some (.lst (vs.map vdD)) := by rw [mput_ne hqu, mput_same]
    refine ⟨vs.map vdD, by rw [hMq], vnum, fun w hw Q' hq' => ?_, ?_, nums_alike vs, nums_sort vs, fun p4 hp4 => ?_⟩
    · obtain ⟨v, _, rfl⟩ := List.mem_map.mp hw
      exact ⟨v, rfl, hq'⟩
    · rw [List.all_map, List.all_map]
      exact List.all_eq_true.mpr fun v _ => by show dOk 32 (.int v.1) = true; simp
    · obtain ⟨ss, hss, hperm⟩ := perm_map vdD (xs := vs) (List.mergeSort_perm (vs.map vdD) (PySem.W.dataLe false fun x => D.py (vnum x)))
      rw [mdel_mput hp4, hss]
      refine ⟨_, rfl, ws, rfl, dr3 ho, hwl, hwo, fun o5 tr ho5 => ?_⟩
      rw [sw3]
      have z := h o5 (rps, ss, .tup (tr.map fun t => D.tup [.str t.1, .int t.2])) ho5 ⟨hro, fun v hv => hvs v (hperm.mem_iff.mp hv), by show rps.length ≤ 40; omega, by show ss.length ≤ 40; rw [hperm.length_eq]; omega⟩ hrne hrlen (by show ss.length ≤ 5; rw [hperm.length_eq]; omega)
      exact ret_le (MLe.put (MLe.put (.refl _) (mput_fresh hpq hqM)) (mput_fresh hpu huM)) z
  · rintro d items m1 M1 Cn hC ⟨o, vs, us, x10, x11, x12, x13, x14, x15, x16, x17, x18, ho, hvl, hul, hvs, rfl, rfl⟩
    refine ⟨srcV_none, ?_⟩
    rw [List.length_cons] at hvl hul
    walk_at "st"
    obtain ⟨N, hN⟩ : ∃ N : Nat, l.1 + 7 = (N : Int) := ⟨(l.1 + 7).toNat, by omega⟩
    refine ⟨_, hlast, _, items_rpD, _, atI_0 _ _, l.1, rfl, by omega, by omega, by omega, fun _ => ?_⟩
    have er : rangeD 1 (l.1 + 8 - 1).toNat = (List.range N).map fun k : Nat => D.int (1 + (k : Int)) := by
      rw [show (l.1 + 8 - 1).toNat = N by omega]
      rfl
    have hfr := fresh_num N us (by omega)
    rw [er]
    refine lc_pure (List.range N) (fun k : Nat => D.int (1 + (k : Int))) (fun k : Nat => decide ((1 + (k : Int)) ∉ us)) (fun k : Nat => D.int (1 + (k : Int))) rfl srcV_none (fun j hj M5 l5 C1 C2 h5 h6 => ?_) fun r3 hr3 => ?_
    · have e5 : M5 u = some (.lst (us.map D.int)) := l5 _ _ mput_same
      walk_at "s1"
      rw [e5]
      refine ⟨_, rfl, by rw [List.all_map]; exact List.all_eq_true.mpr fun i _ => by show dOk 63 (.int i) = true; simp, ?_⟩
      have ea : ((us.map D.int).any fun z => z.eqv (D.int (1 + (j : Int)))) = !decide ((1 + (j : Int)) ∉ us) := by
        rw [List.any_map, Bool.eq_iff_iff, List.any_eq_true]
        simp only [Function.comp, eqv_int, decide_eq_true_eq, decide_not, Bool.not_not]
        exact ⟨fun ⟨x, hx, e⟩ => e ▸ hx, fun hx => ⟨_, hx, rfl⟩⟩
      rw [ea]
      split
      · next c => exact h5 (by simpa using c)
      · next c => exact h6 (by simpa using c)
    rw [mdel_mput hr3]
    refine ⟨dr3 ho, fun z => hfr (List.map_eq_nil_iff.mp z), fun o3 x3 ho3 hx3 => ?_⟩
    obtain ⟨j, hj, rfl⟩ := List.mem_map.mp hx3
    rw [sw3]
    walk_at "st"
    refine ⟨⟨_, rfl⟩, _, rfl, by rw [List.length_map]; omega, ?_⟩
    rw [show us.map D.int ++ [D.int (1 + (j : Int))] = (us ++ [1 + (j : Int)]).map D.int by rw [List.map_append]; rfl]
    walk_at "st"
    refine ⟨dr3 ho3, fun z => hrne (List.map_eq_nil_iff.mp z), fun o4 d4 ho4 hd4 => ?_⟩
    obtain ⟨tr, htr, rfl⟩ := List.mem_map.mp hd4
    have htro := hro tr htr
    rw [sw3]
    walk_at "st"
    intro _
    refine lc_pure sc enE (fun e => decide (e.1 = tr.2.2.1)) enE rfl srcV_none (fun e he M5 l5 C1 C2 h5 h6 => ?_) fun r5 hr5 => ?_
    · have hes := hsc e he
      walk_at "s1"
      refine ⟨hes.1, htro.nm, ?_⟩
      split
      · next c => exact h5 (decide_eq_true c)
      · next c => exact h6 (decide_eq_false c)
    rw [mdel_mput hr5]
    obtain ⟨e, he, hee, hat5⟩ : ∃ e ∈ sc, e.1 = tr.2.2.1 ∧ atI ((sc.filter fun e => decide (e.1 = tr.2.2.1)).map enE) 0 = some (enE e) := by
      have hk := htro.key
      unfold keyL at hk
      rw [Option.isSome_map, List.find?_isSome] at hk
      obtain ⟨e0', he0', hd0⟩ := hk
      cases ef : sc.filter fun e => decide (e.1 = tr.2.2.1) with
      | nil => exact absurd hd0 (List.filter_eq_nil_iff.mp ef e0' he0')
      | cons e es =>
        have hm : e ∈ sc.filter fun e => decide (e.1 = tr.2.2.1) := by rw [ef]; simp
        exact ⟨e, (List.mem_filter.mp hm).1, by simpa using (List.mem_filter.mp hm).2, atI_0 _ _⟩
    have hes := hsc e he
    refine ⟨_, hat5, ?_⟩
    walk_at "st"
    refine ⟨e, rfl, by have := hes.2; omega, by have := hes.2; omega, dr3 ho4, fun o5 vv ho5 hvvl hvvm => ?_⟩
    rw [sw3]
    refine ⟨dr3 ho5, fun o6 r6 ho6 r60 r61 => ?_⟩
    rw [sw3]
    obtain ⟨row, hrow, hat6⟩ : ∃ row : List D, (∀ v ∈ row, isV v) ∧ atI [D.tup tr.2.2.2.1, D.tup tr.2.2.2.1, D.tup vv] r6 = some (.tup row) := by
      rcases (by omega : r6 = 0 ∨ r6 = 1 ∨ r6 = 2) with rfl | rfl | rfl
      · exact ⟨_, htro.row, rfl⟩
      · exact ⟨_, htro.row, rfl⟩
      · exact ⟨_, fun v hv => isV_of hx hy hz v (hvvm v hv), rfl⟩
    refine ⟨_, hat6, ?_⟩
    walk_at "st"
    refine ⟨hg, dr3 ho6, fun o7 s ss ho7 hss hcan => ?_⟩
    rw [sw3]
    obtain ⟨V, hV⟩ : ∃ V : Vd, V = (1 + (j : Int), tr.2.2.1, row, s :: ss) := ⟨_, rfl⟩
    have hVo : VdOk sc V := by
      rw [hV]
      exact ⟨htro.nm, hrow, by rw [← hee]; exact keyL_in he _, hcan, by show (s :: ss).length ≤ 20; rw [List.length_cons]; omega⟩
    rw [show D.tup [D.int (1 + (j : Int)), D.str tr.2.2.1, D.tup row, spD (s :: ss)] = vdD V by rw [hV]; rfl]
    have hMq : ∀ {o A B}, mput (mput (mput M p o) q A) u B q = some A := fun {o A B} => by rw [mput_ne hqu, mput_same]
    refine ⟨vs.map vdD, by rw [hMq], fun _ r7 hr7 => ?_⟩
    have hq7 : q ≠ r7 := ne_of_fresh hMq hr7
    refine lc_ind (fun its acc M3 => ∃ (rest : List Vd), its = rest.map vdD ∧ (∀ v ∈ rest, v ∈ vs) ∧ (∀ z ∈ acc, ∃ b, z = D.bl b) ∧ M3 = mput (mput (mput (mput M p o7) q (.lst (vs.map vdD))) u (.lst ((us ++ [1 + (j : Int)]).map D.int))) r7 (.lst acc)) ?_ ?_ _ _ _ ⟨vs, rfl, fun _ h => h, by simp, rfl⟩
    · rintro acc M3 ⟨rest, _, _, hacc, rfl⟩
      refine ⟨fun a e => by cases e; rw [mput_ne hq7]; exact hMq, ?_⟩
      rw [mdel_mput hr7]
      refine ⟨List.all_eq_true.mpr fun z hz => ?_, ?_⟩
      · obtain ⟨b, rfl⟩ := hacc z hz
        rfl
      split
      · rw [hMq]
        refine ⟨⟨_, rfl⟩, _, rfl, by rw [List.length_map]; omega, ?_⟩
        rw [sq3]
        refine fg_of (hC _ _ ⟨o7, vs ++ [V], us ++ [1 + (j : Int)], _, _, _, _, _, _, _, _, _, ho7, by rw [List.length_append, List.length_singleton]; omega, by rw [List.length_append, List.length_singleton]; omega, fun w hw => ?_, by rw [List.map_append (f := vdD)]; rfl, rfl⟩)
        rcases List.mem_append.mp hw with hw | hw
        · exact hvs w hw
        · rw [List.mem_singleton.mp hw]
          exact hVo
      · exact fg_of (hC _ _ ⟨o7, vs, us ++ [1 + (j : Int)], _, _, _, _, _, _, _, _, _, ho7, by omega, by rw [List.length_append, List.length_singleton]; omega, hvs, rfl, rfl⟩)
    · rintro d7 its acc M3 Cn7 hC7 ⟨rest, hi, hrest, hacc, rfl⟩
      refine ⟨fun a e => by cases e; rw [mput_ne hq7]; exact hMq, ?_⟩
      cases rest with
      | nil => cases hi
      | cons v rest =>
        rw [List.map_cons] at hi
        injection hi with h1 h2
        subst h1
        subst h2
        walk_at "s1"
        refine ⟨sc, rfl, V, rfl, v, rfl, fun e he => (hsc e he).1, hVo, hvs v (hrest v (by simp)), fun b => ?_⟩
        refine hC7 _ _ ⟨rest, rfl, fun w hw => hrest w (by simp [hw]), fun z hz => ?_, rfl⟩
        rcases List.mem_append.mp hz with hz | hz
        · exact hacc z hz
        · rw [List.mem_singleton.mp hz]
          exact ⟨b, rfl⟩
abbrev sp_l_far : DSp := ar2 fun a b M Q => ∃ (p : Addr) (sc : List Ent) (t : Td), a = .ref p ∧ b = tdD t ∧ Dr M p ∧ TdOk sc t ∧ t.1 ≠ [] ∧ ∀ (o : DO) (t' : Td), DrO o → TdOk sc t' → t'.1 ≠ [] → t'.1.length = t.1.length → t'.2.1.length = t.2.1.length → Q (tdD t') (mput M p o)
theorem ok_l_far (F : Def K mg "_law_far" s_l_far ["draws", "told"]) (B : Bi K mg) (I : Im mg) (c_l_take : Cal P w K mg base 1 "_law_take" ["draws", "many"] sp_l_take) (c_l_pick : Cal P w K mg base 2 "_law_pick" ["draws", "row"] sp_l_pick) : Cal P w K mg base 3 "_law_far" ["draws", "told"] sp_l_far := by
  have sc := sc_l_far
  refine F.cal sc (fun ds M Q h => len2 h) (fun f cdv A outer s H E hr => (ds_cons (ds_set (i := 2) sc.nd rfl (Or.inr rfl) (d_ix x_ix (d_call c_l_pick (hr.mono (by first | decide | omega)) rfl (da_cons (d_v 0) (da_cons (d_ix x_ix (d_v 1) d_int (fun _ _ => rfl)) da_nil))) d_int (fun _ _ => rfl)))
    (ds_cons (ds_set (i := 3) sc.nd rfl (Or.inr rfl) (d_op o_mul (d_op o_pow d_int d_int) (d_ct c_int rfl B.b_int boot_int (da_cons (d_cmp (o_eq (hu_eq hr)) (d_call c_l_take (hr.mono (by first | decide | omega)) rfl (da_cons (d_v 0) (da_cons d_int da_nil))) d_int (nomark _)) da_nil))))
    (ds_cons (ds_setLcF (i := 4) rfl sc.nd rfl rfl (sw_true rfl rfl rfl (by decide +kernel)) (own := [("part", 6)]) (di_seq (d_ix x_ix (d_v 1) d_int (fun _ _ => rfl))) (blkOk_by (N := N_l_far) (sc := defScope s_l_far) (by decide +kernel)) (by decide) (fun _ _ _ _ _ => (dg_name (i := 6) sc.nd rfl (Or.inl rfl))) (fun _ _ _ _ _ => dts_nil) (fun _ _ _ _ _ => (d_op o_addA (d_tup (da_cons (d_op o_add (d_ix x_ix (d_v 6) d_int (fun _ _ => rfl)) (d_op o_mul (d_v 3) (d_ct c_int rfl B.b_int boot_int (da_cons (d_cmp o_gt (d_ix x_ix (d_v 6) d_int (fun _ _ => rfl)) (d_v 2) (nomark _)) da_nil)))) da_nil)) (d_sl (d_v 6) (dp_some d_int) dp_none))))
    (ds_cons (ds_setLcF (i := 5) rfl sc.nd rfl rfl (sw_true rfl rfl rfl (by decide +kernel)) (own := [("part", 6)]) (di_seq (d_ix x_ix (d_v 1) d_int (fun _ _ => rfl))) (blkOk_by (N := N_l_far) (sc := defScope s_l_far) (by decide +kernel)) (by decide) (fun _ _ _ _ _ => (dg_name (i := 6) sc.nd rfl (Or.inl rfl))) (fun _ _ _ _ _ => dts_nil) (fun _ _ _ _ _ => (d_op o_addA (d_tup (da_cons (d_op o_add (d_ix x_ix (d_v 6) d_int (fun _ _ => rfl)) (d_op o_mul (d_v 3) (d_ct c_int rfl B.b_int boot_int (da_cons (d_cmp o_gt (d_ix x_ix (d_v 6) d_int (fun _ _ => rfl)) (d_v 2) (nomark _)) da_nil)))) da_nil)) (d_sl (d_v 6) (dp_some d_int) dp_none))))
    (ds_one (ds_ret (d_tup (da_cons (d_ct c_tuple rfl B.b_tuple boot_tuple (da_cons (d_v 4) da_nil)) (da_cons (d_ct c_tuple rfl B.b_tuple boot_tuple (da_cons (d_v 5) da_nil)) (da_cons (d_ix x_ix (d_v 1) d_int (fun _ _ => rfl)) da_nil))))))))))) (fun ds M Q h => ?_)
  obtain ⟨a, b, rfl, p, sc, t, rfl, rfl, hp, ht, hne, h⟩ := h
  walk_at "st"
  refine ⟨hp, fun z => hne (List.map_eq_nil_iff.mp z), fun o1 x ho1 hx => ?_⟩
  obtain ⟨r, hr, rfl⟩ := List.mem_map.mp hx
  refine ⟨_, items_rpD, _, atI_0 _ _, ?_⟩
  walk_at "st"
  refine ⟨dr_put ho1, fun o2 r2 ho2 _ _ => ⟨.inr (.inl ⟨by split <;> omega, by split <;> omega⟩), ?_⟩⟩
  obtain ⟨g, hg⟩ : ∃ g : Int, g = 100000000000000000000 * (if r2 = 1 then 1 else 0) := ⟨_, rfl⟩
  rw [← hg]
  clear hg
  walk_at "st"
  intro _
  refine lc_map t.1 rpD (fun r' => rpD (r'.1 + g * (if r.1 < r'.1 then 1 else 0), r'.2)) rfl srcV_none (fun r' hr' M5 l5 C1 h5 => ?_) fun q hq => ?_
  · walk_at "s1"
    exact ⟨.inr (.inl ⟨by split <;> omega, by split <;> omega⟩), fun _ => ⟨by show 1 + 4 ≤ 16777216; decide, h5⟩, fun z => absurd rfl z⟩
  rw [mdel_mput hq]
  walk_at "st"
  intro _
  refine lc_map t.2.1 vdD (fun r' => vdD (r'.1 + g * (if r.1 < r'.1 then 1 else 0), r'.2)) rfl srcV_none (fun r' hr' M5 l5 C1 h5 => ?_) fun q hq => ?_
  · walk_at "s1"
    exact ⟨.inr (.inl ⟨by split <;> omega, by split <;> omega⟩), fun _ => ⟨by show 1 + 3 ≤ 16777216; decide, h5⟩, fun z => absurd rfl z⟩
  rw [mdel_mput hq]
  have z := h o2 (t.1.map fun r' => (r'.1 + g * (if r.1 < r'.1 then 1 else 0), r'.2), t.2.1.map fun r' => (r'.1 + g * (if r.1 < r'.1 then 1 else 0), r'.2), t.2.2) ho2 ⟨fun x hx => ?_, fun x hx => ?_, by show (List.map _ _).length ≤ 40; rw [List.length_map]; exact ht.rl, by show (List.map _ _).length ≤ 40; rw [List.length_map]; exact ht.vl⟩ (fun z => hne (List.map_eq_nil_iff.mp z)) (List.length_map ..) (List.length_map ..)
  · unfold tdD at z
    rw [List.map_map, List.map_map] at z
    exact ret_of z
  · obtain ⟨x0, hx0, rfl⟩ := List.mem_map.mp hx
    have := ht.rps x0 hx0
    exact ⟨this.src, this.nm, this.row, this.key, this.can, this.len⟩
  · obtain ⟨x0, hx0, rfl⟩ := List.mem_map.mp hx
    have := ht.vds x0 hx0
    exact ⟨this.nm, this.row, this.key, this.can, this.len⟩
def unI : D → Int
  | .int i => i
  | _ => 0
abbrev sp_l_last : DSp := ar1 fun a M Q => ∃ (t : Td), a = tdD t ∧ t.1 ≠ [] ∧ t.1.length ≤ 40 ∧ t.2.1.length ≤ 40 ∧ ∀ i : Int, Q (.int i) M
theorem ok_l_last (F : Def K mg "_law_last" s_l_last ["told"]) (B : Bi K mg) (I : Im mg)  : Cal P w K mg base 1 "_law_last" ["told"] sp_l_last := by
  have sc := sc_l_last
  refine F.cal sc (fun ds M Q h => len1 h) (fun f cdv A outer s H E hr => (ds_one (ds_ret (d_cb (c_max rfl) rfl B.b_max boot_max (da_cons (d_lcF rfl sc.nd (own := [("part", 1)]) (di_seq (d_op o_addA (d_ix x_ix (d_v 0) d_int (fun _ _ => rfl)) (d_ix x_ix (d_v 0) d_int (fun _ _ => rfl)))) (blkOk_by (N := N_l_last) (sc := defScope s_l_last) (by decide +kernel)) (by decide) (fun _ _ _ _ _ => (dg_name (i := 1) sc.nd rfl (Or.inl rfl))) (fun _ _ _ _ _ => dts_nil) (fun _ _ _ _ _ => (d_ix x_ix (d_v 1) d_int (fun _ _ => rfl)))) da_nil))))) (fun ds M Q h => ?_)
  obtain ⟨a, rfl, t, rfl, hne, h1, h2, h⟩ := h
  walk_at "rd"
  refine ⟨by rw [List.length_map, List.length_map]; omega, fun _ => ?_⟩
  have hn : ∀ d ∈ t.1.map rpD ++ t.2.1.map vdD, ∃ i xs, d = D.tup (.int i :: xs) := fun d hd => by
    rcases List.mem_append.mp hd with hd | hd
    · obtain ⟨r, _, rfl⟩ := List.mem_map.mp hd
      exact ⟨_, _, rfl⟩
    · obtain ⟨r, _, rfl⟩ := List.mem_map.mp hd
      exact ⟨_, _, rfl⟩
  have hm : ∀ ds : List D, (∀ d ∈ ds, ∃ i xs, d = D.tup (.int i :: xs)) → ds.map vnum = (ds.map fun d => (unI (vnum d))).map D.int := fun ds hds => by
    rw [List.map_map]
    refine List.map_congr_left fun d hd => ?_
    obtain ⟨i, xs, rfl⟩ := hds d hd
    rfl
  refine lc_map (t.1.map rpD ++ t.2.1.map vdD) (fun d => d) vnum (List.map_id' _).symm srcV_none (fun d hd M5 l5 C1 h5 => ?_) fun q hq => ?_
  · obtain ⟨i, xs, rfl⟩ := hn d hd
    walk_at "s1"
    exact h5
  rw [mdel_mput hq]
  refine ⟨_, hm _ hn, ?_, fun i _ _ => ret_of (h i)⟩
  rw [List.length_map, List.length_append, List.length_map]
  have := List.length_pos_iff.mpr hne
  omega
/-! ### what is due -/
open Classical in
noncomputable def cutB (sc : List Ent) (vs : List Vd) (r : Rp) (m : Int) : Bool := decide (CutAt sc vs r m)
abbrev sp_l_is_cut : DSp := ar4 fun a b c d M Q => ∃ (sc : List Ent) (t : Td) (r : Rp) (m : Int), a = .tup (sc.map enE) ∧ b = tdD t ∧ c = rpD r ∧ d = .int m ∧ (∀ e ∈ sc, PyData.strOk e.1 = true) ∧ (∀ v ∈ t.2.1, VdOk sc v) ∧ RpOk sc r ∧ Q (.bl (cutB sc t.2.1 r m)) M
theorem ok_l_is_cut (F : Def K mg "_law_is_cut" s_l_is_cut ["schema", "told", "report", "moment"]) (B : Bi K mg) (I : Im mg) (c_l_has : Cal P w K mg base 1 "_law_has" ["span", "moment"] sp_l_has) (c_l_key_of : Cal P w K mg base 1 "_law_key_of" ["schema", "name", "row"] sp_l_key_of) : Cal P w K mg base 2 "_law_is_cut" ["schema", "told", "report", "moment"] sp_l_is_cut := by
  have sc := sc_l_is_cut
  refine F.cal sc (fun ds M Q h => len4 h) (fun f cdv A outer s H E hr => (ds_cons (ds_for PassesOwn.never rfl (di_seq (d_ix x_ix (d_v 1) d_int (fun _ _ => rfl))) (dg_name (i := 4) sc.nd rfl (Or.inl rfl))
    (ds_one (ds_if (dt_w (dw_and (dt_cmp (o_eq (hu_eq hr)) (d_ix x_ix (d_v 4) d_int (fun _ _ => rfl)) (d_ix x_ix (d_v 2) d_int (fun _ _ => rfl)) (nomark _)) (dw_and (dt_cmp (o_ne (hu_eq hr)) (d_ix x_ix (d_v 4) d_int (fun _ _ => rfl)) (d_ix x_ix (d_v 2) d_int (fun _ _ => rfl)) (nomark _)) (dw_and1 (dt_val (d_call c_l_has (hr.mono (by first | decide | omega)) rfl (da_cons (d_ix x_ix (d_v 4) d_int (fun _ _ => rfl)) (da_cons (d_v 3) da_nil))))))))
    (ds_one (ds_if (dt_cmp (o_eq (hu_eq hr)) (d_call c_l_key_of (hr.mono (by first | decide | omega)) rfl (da_cons (d_v 0) (da_cons (d_ix x_ix (d_v 2) d_int (fun _ _ => rfl)) (da_cons (d_ix x_ix (d_v 2) d_int (fun _ _ => rfl)) da_nil)))) (d_call c_l_key_of (hr.mono (by first | decide | omega)) rfl (da_cons (d_v 0) (da_cons (d_ix x_ix (d_v 4) d_int (fun _ _ => rfl)) (da_cons (d_ix x_ix (d_v 4) d_int (fun _ _ => rfl)) da_nil)))) (nomark _))
    (ds_one (ds_ret d_bl))
    ds_nil))
    ds_nil)))
    (ds_one (ds_ret d_bl)))) (fun ds M Q h => ?_)
  obtain ⟨a, b, c, d, rfl, sc, t, r, m, rfl, rfl, rfl, rfl, hsc, hvs, hr, h⟩ := h
  walk_at "st"
  intro _
  refine for_ind (fun items m1 M1 => ∃ (rest dn : List Vd) (x4 : Option D), items = rest.map vdD ∧ dn ++ rest = t.2.1 ∧ ¬ CutAt sc dn r m ∧ M1 = M ∧ m1 = [some (.tup (sc.map enE)), some (tdD t), some (rpD r), some (.int m), x4]) ?_ ?_ _ _ _ ⟨t.2.1, [], _, rfl, rfl, fun ⟨v, hv, _⟩ => (nomatch hv), rfl, rfl⟩
  · rintro m1 M1 ⟨rest, dn, x4, hi, hd, hno, rfl, rfl⟩
    refine ⟨srcV_none, ?_⟩
    cases rest with
    | cons x r => cases hi
    | nil =>
      rw [List.append_nil] at hd
      subst hd
      unfold cutB at h
      open Classical in
      rw [decide_eq_false hno] at h
      walk_at "rd"
      exact ret_of h
  · rintro z items m1 M1 Cn hC ⟨rest, dn, x4, hi, hd, hno, rfl, rfl⟩
    refine ⟨srcV_none, ?_⟩
    cases rest with
    | nil => cases hi
    | cons v rest =>
      rw [List.map_cons] at hi
      injection hi with e1 e2
      subst e1
      subst e2
      have hvm : v ∈ t.2.1 := by rw [← hd]; simp
      have hv := hvs v hvm
      have hd2 : (dn ++ [v]) ++ rest = t.2.1 := by rw [← hd]; simp
      have go : ¬ (v.2.1 = r.2.2.1 ∧ keyL sc v.2.1 v.2.2.1 = keyL sc r.2.2.1 r.2.2.2.1 ∧ v.2.2.1 ≠ r.2.2.2.1 ∧ hasS v.2.2.2 m = true) → fg Cn [some (.tup (sc.map enE)), some (tdD t), some (rpD r), some (.int m), some (vdD v)] M1 := fun no => fg_of (hC _ _ ⟨rest, dn ++ [v], _, rfl, hd2, fun ⟨w, hw, k⟩ => by
        rcases List.mem_append.mp hw with hw | hw
        · exact hno ⟨w, hw, k⟩
        · rw [List.mem_singleton.mp hw] at k
          exact no k, rfl, rfl⟩)
      have yes : (v.2.1 = r.2.2.1 ∧ keyL sc v.2.1 v.2.2.1 = keyL sc r.2.2.1 r.2.2.2.1 ∧ v.2.2.1 ≠ r.2.2.2.1 ∧ hasS v.2.2.2 m = true) → DL.ret Q (.bl true) M1 := fun k => by
        unfold cutB at h
        open Classical in
        rw [decide_eq_true (show CutAt sc t.2.1 r m from ⟨v, hvm, k⟩)] at h
        exact ret_of h
      have hre : ∀ {a c : List D}, (∀ u ∈ a, isV u) → (∀ u ∈ c, isV u) → (D.eqv (.tup a) (.tup c) = true ↔ a = c) := fun {a c} ha hc => (eqv_pl (.tup a) (.tup c) (row_pl ha) (row_pl hc)).trans ⟨fun e => by injection e, fun e => by rw [e]⟩
      obtain ⟨k1, hk1⟩ := Option.isSome_iff_exists.mp hr.key
      obtain ⟨k2, hk2⟩ := Option.isSome_iff_exists.mp hv.key
      have i1 := keyL_isV hr.row hk1
      have i2 := keyL_isV hv.row hk2
      clear hC h
      walk_at "rd"
      refine ⟨hv.nm, hr.nm, ?_⟩
      by_cases c1 : v.2.1 = r.2.2.1
      · rw [if_pos c1]
        refine ⟨row_ok hv.row 63, row_ok hr.row 63, ?_⟩
        by_cases c2 : v.2.2.1 = r.2.2.2.1
        · rw [if_neg (by rw [(hre hv.row hr.row).mpr c2]; decide)]
          exact go fun z => z.2.2.1 c2
        · rw [if_pos (Bool.eq_false_iff.mpr fun z => c2 ((hre hv.row hr.row).mp z))]
          refine ⟨_, .inl rfl, ?_⟩
          by_cases c3 : hasS v.2.2.2 m = true
          · rw [if_pos c3]
            refine ⟨sc, rfl, hr.nm, hsc, sc, rfl, hv.nm, hsc, ?_⟩
            rw [hk1, hk2]
            simp only [Option.getD_some]
            refine ⟨row_ok i1 63, row_ok i2 63, ?_⟩
            by_cases c4 : k1 = k2
            · rw [if_pos ((hre i1 i2).mpr c4)]
              exact yes ⟨c1, by rw [hk1, hk2, c4], c2, c3⟩
            · rw [if_neg (fun z => c4 ((hre i1 i2).mp z))]
              exact go fun z => c4 (by have := z.2.1; rw [hk1, hk2] at this; exact (Option.some.inj this).symm)
          · rw [if_neg c3]
            exact go fun z => c3 z.2.2.2
      · rw [if_neg c1]
        exact go fun z => c1 z.1
abbrev sp_l_telling : DSp := ar3 fun a b c M Q => ∃ (sc : List Ent) (t : Td) (m : Int), a = .tup (sc.map enE) ∧ b = tdD t ∧ c = .int m ∧ (∀ e ∈ sc, PyData.strOk e.1 = true) ∧ TdOk sc t ∧ Q (.lst ((t.1.filter fun r => hasS r.2.2.2.2 m && !cutB sc t.2.1 r m).map rpD)) M
theorem ok_l_telling (F : Def K mg "_law_telling" s_l_telling ["schema", "told", "moment"]) (B : Bi K mg) (I : Im mg) (c_l_has : Cal P w K mg base 1 "_law_has" ["span", "moment"] sp_l_has) (c_l_is_cut : Cal P w K mg base 2 "_law_is_cut" ["schema", "told", "report", "moment"] sp_l_is_cut) : Cal P w K mg base 3 "_law_telling" ["schema", "told", "moment"] sp_l_telling := by
  have sc := sc_l_telling
  refine F.cal sc (fun ds M Q h => len3 h) (fun f cdv A outer s H E hr => (ds_cons (ds_set (i := 3) sc.nd rfl (Or.inl rfl) (d_lst da_nil))
    (ds_cons (ds_for PassesOwn.never rfl (di_seq (d_ix x_ix (d_v 1) d_int (fun _ _ => rfl))) (dg_name (i := 4) sc.nd rfl (Or.inl rfl))
    (ds_one (ds_if (dt_w (dw_and (dt_val (d_call c_l_has (hr.mono (by first | decide | omega)) rfl (da_cons (d_ix x_ix (d_v 4) d_int (fun _ _ => rfl)) (da_cons (d_v 2) da_nil)))) (dw_and1 (dt_not (dt_val (d_call c_l_is_cut (hr.mono (by first | decide | omega)) rfl (da_cons (d_v 0) (da_cons (d_v 1) (da_cons (d_v 4) (da_cons (d_v 2) da_nil))))))))))
    (ds_one (ds_expr (d_mt PySem.F.slot_list_append PySem.F.type_list_append m_append (d_v 3) (da_cons (d_v 4) da_nil))))
    ds_nil)))
    (ds_one (ds_ret (d_fz (d_v 3))))))) (fun ds M Q h => ?_)
  obtain ⟨a, b, c, rfl, sc, t, m, rfl, rfl, rfl, hsc, ht, h⟩ := h
  walk_at "st"
  intro q hq
  walk_at "st"
  intro _
  refine for_ind (fun items m1 M1 => ∃ (rest dn : List Rp) (x4 : Option D), items = rest.map rpD ∧ dn ++ rest = t.1 ∧ M1 = mput M q (.lst ((dn.filter fun r => hasS r.2.2.2.2 m && !cutB sc t.2.1 r m).map rpD)) ∧ m1 = [some (.tup (sc.map enE)), some (tdD t), some (.int m), some (.ref q), x4]) ?_ ?_ _ _ _ ⟨t.1, [], _, rfl, rfl, rfl, rfl⟩
  · rintro m1 M1 ⟨rest, dn, x4, hi, hd, rfl, rfl⟩
    refine ⟨srcV_none, ?_⟩
    cases rest with
    | cons x r => cases hi
    | nil =>
      rw [List.append_nil] at hd
      subst hd
      walk_at "rd"
      refine ⟨_, rfl, ?_⟩
      rw [mdel_mput hq]
      exact ret_of h
  · rintro z items m1 M1 Cn hC ⟨rest, dn, x4, hi, hd, rfl, rfl⟩
    refine ⟨srcV_none, ?_⟩
    cases rest with
    | nil => cases hi
    | cons r rest =>
      rw [List.map_cons] at hi
      injection hi with e1 e2
      subst e1
      subst e2
      have hr := ht.rps r (by rw [← hd]; simp)
      have hd2 : (dn ++ [r]) ++ rest = t.1 := by rw [← hd]; simp
      have hdl : (dn.filter fun r => hasS r.2.2.2.2 m && !cutB sc t.2.1 r m).length ≤ 40 := by
        have h2 := congrArg List.length hd
        rw [List.length_append] at h2
        have := List.length_filter_le (fun r : Rp => hasS r.2.2.2.2 m && !cutB sc t.2.1 r m) dn
        have := ht.rl
        omega
      have go : (hasS r.2.2.2.2 m && !cutB sc t.2.1 r m) = false → fg Cn [some (.tup (sc.map enE)), some (tdD t), some (.int m), some (.ref q), some (rpD r)] (mput M q (.lst ((dn.filter fun r => hasS r.2.2.2.2 m && !cutB sc t.2.1 r m).map rpD))) := fun e => fg_of (hC _ _ ⟨rest, dn ++ [r], _, rfl, hd2, by rw [List.filter_append, List.filter_cons, e]; simp, rfl⟩)
      have yes : (hasS r.2.2.2.2 m && !cutB sc t.2.1 r m) = true → fg Cn [some (.tup (sc.map enE)), some (tdD t), some (.int m), some (.ref q), some (rpD r)] (mput M q (.lst ((dn.filter fun r => hasS r.2.2.2.2 m && !cutB sc t.2.1 r m).map rpD ++ [rpD r]))) := fun e => fg_of (hC _ _ ⟨rest, dn ++ [r], _, rfl, hd2, by rw [List.filter_append, List.filter_cons, e]; simp, rfl⟩)
      walk_at "s1"
      refine ⟨_, .inl rfl, ?_⟩
      cases c1 : hasS r.2.2.2.2 m with
      | false =>
        rw [if_neg (by decide)]
        exact go (by rw [c1]; rfl)
      | true =>
        rw [if_pos rfl]
        refine ⟨sc, rfl, t, rfl, r, rfl, hsc, ht.vds, hr, ?_⟩
        cases c2 : cutB sc t.2.1 r m with
        | true =>
          rw [if_neg (by decide)]
          exact go (by rw [c1, c2]; rfl)
        | false =>
          rw [if_pos rfl]
          exact ⟨⟨_, rfl⟩, _, rfl, by rw [List.length_map]; omega, yes (by rw [c1, c2]; rfl)⟩
/-- 0 and all begins and ends -/
structure TurnIn (t : Td) (ts : List Int) : Prop where
  asc : ts.Pairwise (· < ·)
  mem : ∀ m, m ∈ ts ↔ m = 0 ∨ (∃ ss, ((∃ r ∈ t.1, r.2.2.2.2 = ss) ∨ ∃ v ∈ t.2.1, v.2.2.2 = ss) ∧ ∃ s ∈ ss, m = s.1 ∨ s.2 = some m)
  len : ts.length ≤ 4000
def tn (s : St) : List Int := s.1 :: s.2.toList
abbrev PtL := List D × List St
def ptD (p : PtL) : D := .tup (p.1 ++ [spD p.2])
def ptsOf (t : Td) : List PtL := t.1.map (fun r => ([.int r.1, .str r.2.1, .str r.2.2.1, .tup r.2.2.2.1], r.2.2.2.2)) ++ t.2.1.map fun v => ([.int v.1, .str v.2.1, .tup v.2.2.1], v.2.2.2)
theorem ptsOf_eq (t : Td) : t.1.map rpD ++ t.2.1.map vdD = (ptsOf t).map ptD := by
  unfold ptsOf
  rw [List.map_append, List.map_map, List.map_map]
  rfl
theorem items_ptD {p : PtL} {M : DM} : dItems (ptD p) M = some (p.1 ++ [spD p.2]) := rfl
theorem tn_len (s : St) : (tn s).length ≤ 2 := by
  unfold tn
  cases s.2 <;> simp
local macro_rules | `(tactic| walk_at "rd") => `(tactic| simp only [dSeq, dSet, dIf, dTst, dOp, dVar, dC, dRet, dRetN, dNext, dDrop, dBreak, dCont, dAnd, dOr, dNot, dAndV, dOrV, dNotV, dIfE, dTup, dLstF, dLst, dCons, dNil, dCB, dCall, dUn, dNegI, dI, dI0, dEq, dNe, dIs, dIsNot, dIn, dNotIn, dIx, isN_non, isN_bl, isN_int, isN_str, isN_tup, isN_lst, isN_rf, DL.rLen, rInt, rAbs, rMax2, rMin2, DL.rGcd, rTuple, rList, rIs, rIsT, ar0, ar1, ar2, ar3, ar4, ar5, ar6, ar7, ar8, dEnds, dMt, dMt0, mAppend, mPop, mReverse, dSetL, dPut, dAsg, dgName, dgTup, dgCons, dgNil, dFor, diSeq, diRng1, diRng2, dLcF, dLc, dwipe, dFz, dstart, List.map_cons, List.map_nil, List.length_cons, List.length_nil, List.cons_append, List.nil_append, List.append_nil, List.replicate, Nat.reduceAdd, Nat.reduceSub, Nat.reduceLeDiff, Int.reduceNeg, List.set_cons_zero, List.set_cons_succ, List.getElem?_cons_zero, List.getElem?_cons_succ, Option.some.injEq, exists_eq_left', exists_eq_left, exists_eq_right, exists_eq, exists_and_left, exists_and_right, D.int.injEq, D.bl.injEq, D.str.injEq, D.tup.injEq, D.lst.injEq, D.ref.injEq, D.ty.injEq, D.dct.injEq, List.cons.injEq, and_assoc, and_true, true_and, and_self, reduceCtorEq, false_and, and_false, if_true, if_false, if_pos, ite_true, ite_false, Bool.false_eq_true, decide_eq_true_eq, Bool.not_eq_true', decide_eq_false_iff_not, Bool.not_true, Bool.not_false, decide_true, decide_false, eqv_int, eqv_str, eqv_bl, dOk_int, dOk_bl, dOk_non, dOk_tup, dOk_lst, dOk_str, List.all_cons, List.all_nil, Bool.and_true, Bool.true_and, Bool.and_self, dItems_tup, dItems_lst, dItems_rf, CMulA, CDivA, CPowA, Int.reduceLT, Int.reduceLE, Int.reducePow, Int.reduceToNat, Int.reduceMul, Int.reduceAdd, Int.reduceSub, Nat.reducePow, true_or, or_true, ne_eq, not_false_eq_true, not_true_eq_false, dAt_tup, dAt_lst, dAt_rf, dLenOf_tup, dLenOf_lst, dLenOf_rf, dLenOf_str, dTyN_non, dTyN_bl, dTyN_int, dTyN_str, dTyN_tup, dTyN_lst, dTyN_dct, dTyN_rf, dIntOf_int, dIntOf_bl, knownT, subT, atI_0, atI_1, atI_2, atI_3, atI_4, atI_5, atI_neg1, mput_same, mput_mput, eqv_non, tyNames, Option.map_some, String.reduceBEq, Bool.or_true, Bool.true_or, Bool.or_false, Bool.false_or, Bool.false_and, Bool.and_false, beq_self_eq_true, BEq.rfl, List.any_cons, List.any_nil, sizeLine_eq, rLenB, Bool.true_eq_false, implies_true, Nat.zero_le, Bool.or_self, String.reduceEq, dAdd_ii, dAdd_ss, dAdd_tt, dMulA_ii, dMulA_si, dIxS_str, dIxS_tup, dIxS_lst, dIxS_ref, dCat, dCatF, dRep, dSl, dNoP, dPart, dJoin, mExtend, mIndex, rAnyL, rAllL, rSumL, rMaxL, rMinL, dLRg, diEnum, rSortD, dLc2F, dLc2, dYes, diEnumT, dSlS, rSortK, dFzS, dTupRev, diRev, diZip, dMulT, zipD, dDc, dDGet1, dLtD, dGtD, rListK, dUpper, diStr, dInS, dSortL, dSortSet, dStar, rIntS, rStrI, dKIx, dKIn, dKNotIn, rLenK, dKNew, dFzK, dFzD, dKPut, diKeys, diVals, diItems, mInsert, mPopAt, dKGet1, dKGet2, dKc, dDict_dct, dDict_put, isKb_int, isKb_str, true_implies, false_implies, dDIx, dDIn, dDNotIn, dSetD, dDNew, dSortLen, sortLenB, rSortO, dMIx, dMIn, dMNotIn, dMGet2, diMItems, diMKeys, dFzM, dFzMS, dDSetDf, dDGet2, items_enE, oD_n, oD_s, stD, isN_oD, oD_ok, eqv_oD, items_rpD, items_vdD, items_tdD, items_ptD])
local macro_rules | `(tactic| walk_at "st") => `(tactic| (refine seq_i ?_; simp only [dSet, dIf, dTst, dOp, dVar, dC, dRet, dRetN, dNext, dDrop, dBreak, dCont, dAnd, dOr, dNot, dAndV, dOrV, dNotV, dIfE, dTup, dLstF, dLst, dCons, dNil, dCB, dCall, dUn, dNegI, dI, dI0, dEq, dNe, dIs, dIsNot, dIn, dNotIn, dIx, isN_non, isN_bl, isN_int, isN_str, isN_tup, isN_lst, isN_rf, DL.rLen, rInt, rAbs, rMax2, rMin2, DL.rGcd, rTuple, rList, rIs, rIsT, ar0, ar1, ar2, ar3, ar4, ar5, ar6, ar7, ar8, dEnds, dMt, dMt0, mAppend, mPop, mReverse, dSetL, dPut, dAsg, dgName, dgTup, dgCons, dgNil, dFor, diSeq, diRng1, diRng2, dLcF, dLc, dwipe, dFz, dstart, List.map_cons, List.map_nil, List.length_cons, List.length_nil, List.cons_append, List.nil_append, List.append_nil, List.replicate, Nat.reduceAdd, Nat.reduceSub, Nat.reduceLeDiff, Int.reduceNeg, List.set_cons_zero, List.set_cons_succ, List.getElem?_cons_zero, List.getElem?_cons_succ, Option.some.injEq, exists_eq_left', exists_eq_left, exists_eq_right, exists_eq, exists_and_left, exists_and_right, D.int.injEq, D.bl.injEq, D.str.injEq, D.tup.injEq, D.lst.injEq, D.ref.injEq, D.ty.injEq, D.dct.injEq, List.cons.injEq, and_assoc, and_true, true_and, and_self, reduceCtorEq, false_and, and_false, if_true, if_false, if_pos, ite_true, ite_false, Bool.false_eq_true, decide_eq_true_eq, Bool.not_eq_true', decide_eq_false_iff_not, Bool.not_true, Bool.not_false, decide_true, decide_false, eqv_int, eqv_str, eqv_bl, dOk_int, dOk_bl, dOk_non, dOk_tup, dOk_lst, dOk_str, List.all_cons, List.all_nil, Bool.and_true, Bool.true_and, Bool.and_self, dItems_tup, dItems_lst, dItems_rf, CMulA, CDivA, CPowA, Int.reduceLT, Int.reduceLE, Int.reducePow, Int.reduceToNat, Int.reduceMul, Int.reduceAdd, Int.reduceSub, Nat.reducePow, true_or, or_true, ne_eq, not_false_eq_true, not_true_eq_false, dAt_tup, dAt_lst, dAt_rf, dLenOf_tup, dLenOf_lst, dLenOf_rf, dLenOf_str, dTyN_non, dTyN_bl, dTyN_int, dTyN_str, dTyN_tup, dTyN_lst, dTyN_dct, dTyN_rf, dIntOf_int, dIntOf_bl, knownT, subT, atI_0, atI_1, atI_2, atI_3, atI_4, atI_5, atI_neg1, mput_same, mput_mput, eqv_non, tyNames, Option.map_some, String.reduceBEq, Bool.or_true, Bool.true_or, Bool.or_false, Bool.false_or, Bool.false_and, Bool.and_false, beq_self_eq_true, BEq.rfl, List.any_cons, List.any_nil, sizeLine_eq, rLenB, Bool.true_eq_false, implies_true, Nat.zero_le, Bool.or_self, String.reduceEq, dAdd_ii, dAdd_ss, dAdd_tt, dMulA_ii, dMulA_si, dIxS_str, dIxS_tup, dIxS_lst, dIxS_ref, dCat, dCatF, dRep, dSl, dNoP, dPart, dJoin, mExtend, mIndex, rAnyL, rAllL, rSumL, rMaxL, rMinL, dLRg, diEnum, rSortD, dLc2F, dLc2, dYes, diEnumT, dSlS, rSortK, dFzS, dTupRev, diRev, diZip, dMulT, zipD, dDc, dDGet1, dLtD, dGtD, rListK, dUpper, diStr, dInS, dSortL, dSortSet, dStar, rIntS, rStrI, dKIx, dKIn, dKNotIn, rLenK, dKNew, dFzK, dFzD, dKPut, diKeys, diVals, diItems, mInsert, mPopAt, dKGet1, dKGet2, dKc, dDict_dct, dDict_put, isKb_int, isKb_str, true_implies, false_implies, dDIx, dDIn, dDNotIn, dSetD, dDNew, dSortLen, sortLenB, rSortO, dMIx, dMIn, dMNotIn, dMGet2, diMItems, diMKeys, dFzM, dFzMS, dDSetDf, dDGet2, items_enE, oD_n, oD_s, stD, isN_oD, oD_ok, eqv_oD, items_rpD, items_vdD, items_tdD, items_ptD]))
local macro_rules | `(tactic| walk_at "p") => `(tactic| simp only [dRet, dOp, dVar, dCall, dCB, dCons, dNil, ar0, ar1, ar2, ar3, ar4, ar5, DL.rLen, dIx, dEnds, dstart, List.map_cons, List.map_nil, List.length_cons, List.length_nil, List.cons_append, List.nil_append, List.replicate, Nat.reduceAdd, Nat.reduceSub, Nat.reduceLeDiff, List.getElem?_cons_zero, List.getElem?_cons_succ, Option.some.injEq, exists_eq_left', exists_eq_left, exists_and_left, exists_and_right, List.cons.injEq, and_assoc, and_true, true_and, D.ref.injEq, D.int.injEq])
local macro_rules | `(tactic| walk_at "s1") => `(tactic| simp only [dSet, dIf, dTst, dOp, dVar, dC, dRet, dRetN, dNext, dDrop, dBreak, dCont, dAnd, dOr, dNot, dAndV, dOrV, dNotV, dIfE, dTup, dLstF, dLst, dCons, dNil, dCB, dCall, dUn, dNegI, dI, dI0, dEq, dNe, dIs, dIsNot, dIn, dNotIn, dIx, isN_non, isN_bl, isN_int, isN_str, isN_tup, isN_lst, isN_rf, DL.rLen, rInt, rAbs, rMax2, rMin2, DL.rGcd, rTuple, rList, rIs, rIsT, ar0, ar1, ar2, ar3, ar4, ar5, ar6, ar7, ar8, dEnds, dMt, dMt0, mAppend, mPop, mReverse, dSetL, dPut, dAsg, dgName, dgTup, dgCons, dgNil, dFor, diSeq, diRng1, diRng2, dLcF, dLc, dwipe, dFz, dstart, List.map_cons, List.map_nil, List.length_cons, List.length_nil, List.cons_append, List.nil_append, List.append_nil, List.replicate, Nat.reduceAdd, Nat.reduceSub, Nat.reduceLeDiff, Int.reduceNeg, List.set_cons_zero, List.set_cons_succ, List.getElem?_cons_zero, List.getElem?_cons_succ, Option.some.injEq, exists_eq_left', exists_eq_left, exists_eq_right, exists_eq, exists_and_left, exists_and_right, D.int.injEq, D.bl.injEq, D.str.injEq, D.tup.injEq, D.lst.injEq, D.ref.injEq, D.ty.injEq, D.dct.injEq, List.cons.injEq, and_assoc, and_true, true_and, and_self, reduceCtorEq, false_and, and_false, if_true, if_false, if_pos, ite_true, ite_false, Bool.false_eq_true, decide_eq_true_eq, Bool.not_eq_true', decide_eq_false_iff_not, Bool.not_true, Bool.not_false, decide_true, decide_false, eqv_int, eqv_str, eqv_bl, dOk_int, dOk_bl, dOk_non, dOk_tup, dOk_lst, dOk_str, List.all_cons, List.all_nil, Bool.and_true, Bool.true_and, Bool.and_self, dItems_tup, dItems_lst, dItems_rf, CMulA, CDivA, CPowA, Int.reduceLT, Int.reduceLE, Int.reducePow, Int.reduceToNat, Int.reduceMul, Int.reduceAdd, Int.reduceSub, Nat.reducePow, true_or, or_true, ne_eq, not_false_eq_true, not_true_eq_false, dAt_tup, dAt_lst, dAt_rf, dLenOf_tup, dLenOf_lst, dLenOf_rf, dLenOf_str, dTyN_non, dTyN_bl, dTyN_int, dTyN_str, dTyN_tup, dTyN_lst, dTyN_dct, dTyN_rf, dIntOf_int, dIntOf_bl, knownT, subT, atI_0, atI_1, atI_2, atI_3, atI_4, atI_5, atI_neg1, mput_same, mput_mput, eqv_non, tyNames, Option.map_some, String.reduceBEq, Bool.or_true, Bool.true_or, Bool.or_false, Bool.false_or, Bool.false_and, Bool.and_false, beq_self_eq_true, BEq.rfl, List.any_cons, List.any_nil, sizeLine_eq, rLenB, Bool.true_eq_false, implies_true, Nat.zero_le, Bool.or_self, String.reduceEq, dAdd_ii, dAdd_ss, dAdd_tt, dMulA_ii, dMulA_si, dIxS_str, dIxS_tup, dIxS_lst, dIxS_ref, dCat, dCatF, dRep, dSl, dNoP, dPart, dJoin, mExtend, mIndex, rAnyL, rAllL, rSumL, rMaxL, rMinL, dLRg, diEnum, rSortD, dLc2F, dLc2, dYes, diEnumT, dSlS, rSortK, dFzS, dTupRev, diRev, diZip, dMulT, zipD, dDc, dDGet1, dLtD, dGtD, rListK, dUpper, diStr, dInS, dSortL, dSortSet, dStar, rIntS, rStrI, dKIx, dKIn, dKNotIn, rLenK, dKNew, dFzK, dFzD, dKPut, diKeys, diVals, diItems, mInsert, mPopAt, dKGet1, dKGet2, dKc, dDict_dct, dDict_put, isKb_int, isKb_str, true_implies, false_implies, dDIx, dDIn, dDNotIn, dSetD, dDNew, dSortLen, sortLenB, rSortO, dMIx, dMIn, dMNotIn, dMGet2, diMItems, diMKeys, dFzM, dFzMS, dDSetDf, dDGet2, items_enE, oD_n, oD_s, stD, isN_oD, oD_ok, eqv_oD, items_rpD, items_vdD, items_tdD, items_ptD])
theorem turnIn_of {t : Td} {ts : List Int} (asc : ts.Pairwise (· < ·)) (h : ∀ k, k ∈ ts ↔ k ∈ 0 :: (ptsOf t).flatMap fun p => p.2.flatMap tn) (hl : ts.length ≤ 4000) : TurnIn t ts := by
  refine ⟨asc, fun m => ?_, hl⟩
  rw [h, List.mem_cons, List.mem_flatMap]
  refine or_congr_right ?_
  have ht : ∀ ss : List St, m ∈ ss.flatMap tn ↔ ∃ s ∈ ss, m = s.1 ∨ s.2 = some m := fun ss => by
    rw [List.mem_flatMap]
    refine exists_congr fun s => and_congr_right fun _ => ?_
    unfold tn
    rw [List.mem_cons, Option.mem_toList]
  constructor
  · rintro ⟨p, hp, hm⟩
    refine ⟨p.2, ?_, (ht _).mp hm⟩
    rcases List.mem_append.mp hp with hp | hp
    · obtain ⟨r, hr, rfl⟩ := List.mem_map.mp hp
      exact .inl ⟨r, hr, rfl⟩
    · obtain ⟨v, hv, rfl⟩ := List.mem_map.mp hp
      exact .inr ⟨v, hv, rfl⟩
  · rintro ⟨ss, (⟨r, hr, rfl⟩ | ⟨v, hv, rfl⟩), hm⟩
    · exact ⟨_, List.mem_append_left _ (List.mem_map_of_mem hr), (ht _).mpr hm⟩
    · exact ⟨_, List.mem_append_right _ (List.mem_map_of_mem hv), (ht _).mpr hm⟩
theorem pts_len {sc : List Ent} {t : Td} (ht : TdOk sc t) : (ptsOf t).length ≤ 80 ∧ ∀ p ∈ ptsOf t, p.2.length ≤ 20 := by
  unfold ptsOf
  refine ⟨by rw [List.length_append, List.length_map, List.length_map]; have := ht.rl; have := ht.vl; omega, fun p hp => ?_⟩
  rcases List.mem_append.mp hp with hp | hp
  · obtain ⟨r, hr, rfl⟩ := List.mem_map.mp hp
    exact (ht.rps r hr).len
  · obtain ⟨v, hv, rfl⟩ := List.mem_map.mp hp
    exact (ht.vds v hv).len
abbrev sp_l_turns : DSp := ar1 fun a M Q => ∃ (sc : List Ent) (t : Td), a = tdD t ∧ TdOk sc t ∧ ∀ ts, TurnIn t ts → Q (.lst (ts.map D.int)) M
theorem ok_l_turns (F : Def K mg "_law_turns" s_l_turns ["told"]) (B : Bi K mg) (I : Im mg)  : Cal P w K mg base 1 "_law_turns" ["told"] sp_l_turns := by
  have sc := sc_l_turns
  refine F.cal sc (fun ds M Q h => len1 h) (fun f cdv A outer s H E hr => (ds_cons (ds_set (i := 1) sc.nd rfl (Or.inl rfl) (d_lst (da_cons d_int da_nil)))
    (ds_cons (ds_for PassesOwn.never rfl (di_seq (d_catF (d_fz (d_ct c_list rfl B.b_list boot_list (da_cons (d_ix x_ix (d_v 0) d_int (fun _ _ => rfl)) da_nil))) (d_fz (d_ct c_list rfl B.b_list boot_list (da_cons (d_ix x_ix (d_v 0) d_int (fun _ _ => rfl)) da_nil))))) (dg_name (i := 2) sc.nd rfl (Or.inl rfl))
    (ds_one (ds_for PassesOwn.never rfl (di_seq (d_ix x_ix (d_v 2) (d_neg d_int) (fun _ _ => rfl))) (dg_name (i := 3) sc.nd rfl (Or.inl rfl))
    (ds_cons (ds_expr (d_mt PySem.F.slot_list_append PySem.F.type_list_append m_append (d_v 1) (da_cons (d_ix x_ix (d_v 3) d_int (fun _ _ => rfl)) da_nil)))
    (ds_one (ds_if (dt_cmp o_isnot (d_ix x_ix (d_v 3) d_int (fun _ _ => rfl)) d_non (nomark _))
    (ds_one (ds_expr (d_mt PySem.F.slot_list_append PySem.F.type_list_append m_append (d_v 1) (da_cons (d_ix x_ix (d_v 3) d_int (fun _ _ => rfl)) da_nil))))
    ds_nil))))))
    (ds_one (ds_ret (d_fz (d_sortSet rfl (hu_eq hr) rfl B.b_sorted rfl B.b_set (d_v 1)))))))) (fun ds M Q h => ?_)
  obtain ⟨a, rfl, sc, t, rfl, ht, h⟩ := h
  walk_at "st"
  intro q hq
  walk_at "st"
  intro p1 hp1
  refine ⟨_, rfl, ?_⟩
  rw [mdel_mput hp1]
  intro p2 hp2
  refine ⟨_, rfl, ?_⟩
  rw [mdel_mput hp2, ptsOf_eq]
  obtain ⟨hpl, hps⟩ := pts_len ht
  refine ⟨by rw [List.length_map, List.length_map]; have := ht.rl; have := ht.vl; omega, fun _ => ?_⟩
  refine for_ind (fun items m1 M1 => ∃ (rest dn : List PtL) (x2 x3 : Option D), items = rest.map ptD ∧ dn ++ rest = ptsOf t ∧ M1 = mput M q (.lst ((0 :: dn.flatMap fun p => p.2.flatMap tn).map D.int)) ∧ m1 = [some (tdD t), some (.ref q), x2, x3]) ?_ ?_ _ _ _ ⟨ptsOf t, [], _, _, rfl, rfl, rfl, rfl⟩
  · rintro m1 M1 ⟨rest, dn, x2, x3, hi, hd, rfl, rfl⟩
    refine ⟨srcV_none, ?_⟩
    cases rest with
    | cons x r => cases hi
    | nil =>
      rw [List.append_nil] at hd
      subst hd
      walk_at "rd"
      have hlen : ((0 : Int) :: (ptsOf t).flatMap fun p => p.2.flatMap tn).length ≤ 4000 := by
        rw [List.length_cons]
        have := flat_len (fun p : PtL => p.2.flatMap tn) 40 (ptsOf t) fun p hp => Nat.le_trans (flat_len tn 2 p.2 fun s _ => tn_len s) (by have := hps p hp; omega)
        omega
      refine ⟨0 :: (ptsOf t).flatMap fun p => p.2.flatMap tn, rfl, hlen, fun rs p3 hasc hmem hrl hp3 => ⟨_, rfl, ?_⟩⟩
      rw [mdel_mput hp3]
      exact ret_le (MLe.put (.refl M) hq) (h rs (turnIn_of hasc hmem (Nat.le_trans hrl hlen)))
  · rintro z items m1 M1 Cn hC ⟨rest, dn, x2, x3, hi, hd, rfl, rfl⟩
    refine ⟨srcV_none, ?_⟩
    cases rest with
    | nil => cases hi
    | cons pt rest =>
      rw [List.map_cons] at hi
      injection hi with e1 e2
      subst e1
      subst e2
      have hd2 : (dn ++ [pt]) ++ rest = ptsOf t := by rw [← hd]; simp
      have hdl : dn.length < 80 := by
        have h2 := congrArg List.length hd
        rw [List.length_append, List.length_cons] at h2
        omega
      have hdp : ∀ p ∈ dn ++ [pt], p.2.length ≤ 20 := fun p hp => hps p (by rw [← hd2]; exact List.mem_append_left _ hp)
      have hbase : (dn.flatMap fun p => p.2.flatMap tn).length ≤ 40 * dn.length := flat_len (fun p : PtL => p.2.flatMap tn) 40 dn fun p hp => Nat.le_trans (flat_len tn 2 p.2 fun s _ => tn_len s) (by have := hdp p (List.mem_append_left _ hp); omega)
      have hp20 := hdp pt (by simp)
      walk_at "rd"
      refine ⟨spD pt.2, by simp, _, rfl, fun _ => ?_⟩
      obtain ⟨B, hB⟩ : ∃ B : List Int, B = 0 :: dn.flatMap fun p => p.2.flatMap tn := ⟨_, rfl⟩
      have hBl : B.length ≤ 4000 := by rw [hB, List.length_cons]; omega
      rw [show D.int 0 :: List.map D.int (List.flatMap (fun p : PtL => List.flatMap tn p.2) dn) = B.map D.int by rw [hB]; rfl]
      refine for_ind (fun its m2 M2 => ∃ (rest2 dn2 : List St) (x3 : Option D), its = rest2.map stD ∧ dn2 ++ rest2 = pt.2 ∧ M2 = mput M q (.lst ((B ++ dn2.flatMap tn).map D.int)) ∧ m2 = [some (tdD t), some (.ref q), some (ptD pt), x3]) ?_ ?_ _ _ _ ⟨pt.2, [], _, rfl, rfl, by simp, rfl⟩
      · rintro m2 M2 ⟨rest2, dn2, x3, hi2, hd3, rfl, rfl⟩
        refine ⟨srcV_none, ?_⟩
        cases rest2 with
        | cons x r => cases hi2
        | nil =>
          rw [List.append_nil] at hd3
          subst hd3
          refine fg_of (hC _ _ ⟨rest, dn ++ [pt], _, _, rfl, hd2, ?_, rfl⟩)
          rw [hB, List.flatMap_append]
          simp
      · rintro z2 its m2 M2 Cn2 hC2 ⟨rest2, dn2, x3, hi2, hd3, rfl, rfl⟩
        refine ⟨srcV_none, ?_⟩
        cases rest2 with
        | nil => cases hi2
        | cons s rest2 =>
          rw [List.map_cons] at hi2
          injection hi2 with e1 e2
          subst e1
          subst e2
          have hd4 : (dn2 ++ [s]) ++ rest2 = pt.2 := by rw [← hd3]; simp
          have hl2 : dn2.length ≤ 20 := by
            have h2 := congrArg List.length hd3
            rw [List.length_append] at h2
            omega
          have hb2 := flat_len tn 2 dn2 fun s _ => tn_len s
          have hsn : ∀ u, u = tn s → (B ++ (dn2 ++ [s]).flatMap tn).map D.int = (B ++ dn2.flatMap tn).map D.int ++ u.map D.int := fun u hu => by
            rw [hu, List.flatMap_append]
            simp
          obtain ⟨sb, se⟩ := s
          unfold stD
          cases se with
          | none =>
            walk_at "rd"
            refine ⟨⟨_, rfl⟩, _, rfl, by rw [List.length_map, List.length_append]; omega, ?_⟩
            exact fg_of (hC2 _ _ ⟨rest2, dn2 ++ [(sb, none)], _, rfl, hd4, by rw [hsn [sb] rfl]; rfl, rfl⟩)
          | some x =>
            walk_at "rd"
            refine ⟨⟨_, rfl⟩, _, rfl, by rw [List.length_map, List.length_append]; omega, ⟨_, rfl⟩, _, rfl, by rw [List.length_append, List.length_map, List.length_append, List.length_singleton]; omega, ?_⟩
            exact fg_of (hC2 _ _ ⟨rest2, dn2 ++ [(sb, some x)], _, rfl, hd4, by rw [hsn [sb, x] rfl, List.append_assoc]; rfl, rfl⟩)
def plKey : D → D
  | .tup [n, .tup ks] => .tup [n, .tup (ks.map vKey)]
  | d => d
abbrev sp_l_place_key : DSp := ar1 fun a M Q => ∃ K : Pl, a = plD K ∧ plOk K ∧ Q (plKey (plD K)) M
theorem ok_l_place_key (F : Def K mg "_law_place_key" s_l_place_key ["pair"]) (B : Bi K mg) (I : Im mg) (c_l_row_key : Cal P w K mg base 2 "_law_row_key" ["row"] sp_l_row_key) : Cal P w K mg base 3 "_law_place_key" ["pair"] sp_l_place_key := by
  have sc := sc_l_place_key
  refine F.cal sc (fun ds M Q h => len1 h) (fun f cdv A outer s H E hr => (ds_one (ds_ret (d_tup (da_cons (d_ix x_ix (d_v 0) d_int (fun _ _ => rfl)) (da_cons (d_call c_l_row_key (hr.mono (by first | decide | omega)) rfl (da_cons (d_ix x_ix (d_v 0) d_int (fun _ _ => rfl)) da_nil)) da_nil)))))) (fun ds M Q h => ?_)
  obtain ⟨a, rfl, K, rfl, hK, h⟩ := h
  walk_at "rd"
  exact ⟨_, rfl, _, atI_0 _ _, _, rfl, _, atI_1 _ _ _, K.2, rfl, hK, ret_of h⟩
section
open PySem.W (AllAlike Sortable alike alikeAll)
theorem pls_sort {ks : List Pl} (h : ∀ K ∈ ks, plOk K ∧ PyData.strOk K.1 = true) : ((ks.map plD).map plKey).all (dOk 32) = true ∧ AllAlike (((ks.map plD).map plKey).map D.py) ∧ SortOk (((ks.map plD).map plKey).map D.py) := by
  refine ⟨?_, ?_, .inr fun d hd => ?_⟩
  · rw [List.all_map, List.all_map]
    refine List.all_eq_true.mpr fun K hK => ?_
    show dOk 32 (.tup [.str K.1, .tup (K.2.map vKey)]) = true
    have h2 : (K.2.map vKey).all (dOk 30) = true := by
      rw [List.all_map]
      exact List.all_eq_true.mpr fun v hv => vKey_ok ((h K hK).1 v hv) 29
    simp [dOk_tup, dOk_str, (h K hK).2, h2]
  · intro d hd d' hd'
    simp only [List.mem_map] at hd hd'
    obtain ⟨_, ⟨_, ⟨K, hK, rfl⟩, rfl⟩, rfl⟩ := hd
    obtain ⟨_, ⟨_, ⟨L, hL, rfl⟩, rfl⟩, rfl⟩ := hd'
    have := rowKey_alike (h K hK).1 (h L hL).1
    simp [plKey, plD, D.py, D.pys, alike, alikeAll, this]
  · simp only [List.mem_map] at hd
    obtain ⟨_, ⟨_, ⟨K, hK, rfl⟩, rfl⟩, rfl⟩ := hd
    exact ⟨_, by simp only [plKey, plD, D.py] <;> rfl⟩
end
abbrev sp_l_keys : DSp := ar2 fun a b M Q => ∃ (sc : List Ent) (t : Td), a = .tup (sc.map enE) ∧ b = tdD t ∧ (∀ e ∈ sc, PyData.strOk e.1 = true) ∧ TdOk sc t ∧ ∀ (ks : List Pl) (q : Addr), M q = none → (∀ K ∈ ks, plOk K ∧ PyData.strOk K.1 = true ∧ (sc.find? fun e => decide (e.1 = K.1)).isSome = true) → ks.length ≤ 40 → Q (.ref q) (mput M q (.lst (ks.map plD)))
theorem ok_l_keys (F : Def K mg "_law_keys" s_l_keys ["schema", "told"]) (B : Bi K mg) (I : Im mg) (c_l_key_of : Cal P w K mg base 1 "_law_key_of" ["schema", "name", "row"] sp_l_key_of) (c_l_place_key : Cal P w K mg base 3 "_law_place_key" ["pair"] sp_l_place_key) : Cal P w K mg base 6 "_law_keys" ["schema", "told"] sp_l_keys := by
  have sc := sc_l_keys
  refine F.cal sc (fun ds M Q h => len2 h) (fun f cdv A outer s H E hr => (ds_cons (ds_set (i := 2) sc.nd rfl (Or.inl rfl) (d_lst da_nil))
    (ds_cons (ds_for PassesOwn.never rfl (di_seq (d_ix x_ix (d_v 1) d_int (fun _ _ => rfl))) (dg_name (i := 3) sc.nd rfl (Or.inl rfl))
    (ds_cons (ds_set (i := 4) sc.nd rfl (Or.inl rfl) (d_tup (da_cons (d_ix x_ix (d_v 3) d_int (fun _ _ => rfl)) (da_cons (d_call c_l_key_of (hr.mono (by first | decide | omega)) rfl (da_cons (d_v 0) (da_cons (d_ix x_ix (d_v 3) d_int (fun _ _ => rfl)) (da_cons (d_ix x_ix (d_v 3) d_int (fun _ _ => rfl)) da_nil)))) da_nil))))
    (ds_one (ds_if (dt_cmp (o_notin (hu_in hr)) (d_v 4) (d_v 2) rfl)
    (ds_one (ds_expr (d_mt PySem.F.slot_list_append PySem.F.type_list_append m_append (d_v 2) (da_cons (d_v 4) da_nil))))
    ds_nil))))
    (ds_one (ds_ret (d_sortK c_l_place_key (hr.mono (by first | decide | omega)).in1.in1 rfl rfl B.b_sorted (da_cons (d_v 2) da_nil))))))) (fun ds M Q h => ?_)
  obtain ⟨a, b, rfl, sc, t, rfl, rfl, hsc, ht, h⟩ := h
  walk_at "st"
  intro q hq
  walk_at "st"
  intro _
  refine for_ind (fun items m1 M1 => ∃ (rest dn : List Rp) (ks : List Pl) (x3 x4 : Option D), items = rest.map rpD ∧ dn ++ rest = t.1 ∧ ks.length ≤ dn.length ∧ (∀ K ∈ ks, plOk K ∧ PyData.strOk K.1 = true ∧ (sc.find? fun e => decide (e.1 = K.1)).isSome = true) ∧ M1 = mput M q (.lst (ks.map plD)) ∧ m1 = [some (.tup (sc.map enE)), some (tdD t), some (.ref q), x3, x4]) ?_ ?_ _ _ _ ⟨t.1, [], [], _, _, rfl, rfl, Nat.le_refl _, nofun, rfl, rfl⟩
  · rintro m1 M1 ⟨rest, dn, ks, x3, x4, hi, hd, hkl, hks, rfl, rfl⟩
    refine ⟨srcV_none, ?_⟩
    cases rest with
    | cons x r => cases hi
    | nil =>
      rw [List.append_nil] at hd
      subst hd
      obtain ⟨s1, s2, s3⟩ := pls_sort fun K hK => ⟨(hks K hK).1, (hks K hK).2.1⟩
      walk_at "rd"
      refine ⟨plKey, fun x hx Q' hq' => ?_, s1, s2, s3, fun p3 hp3 => ?_⟩
      · obtain ⟨K, hK, rfl⟩ := List.mem_map.mp hx
        exact ⟨K, rfl, (hks K hK).1, hq'⟩
      · obtain ⟨us, hus, hperm⟩ := perm_map plD (xs := ks) (List.mergeSort_perm (ks.map plD) (PySem.W.dataLe false fun x => D.py (plKey x)))
        rw [hus]
        have h3 : p3 ≠ q := fun e => by rw [e, mput_same] at hp3; cases hp3
        have hpM : M p3 = none := by rw [mput_ne h3] at hp3; exact hp3
        refine ret_le (MLe.both ((MLe.refl M).put hq)) (h us p3 hpM (fun K hK => hks K (hperm.mem_iff.mp hK)) ?_)
        rw [hperm.length_eq]
        have := ht.rl
        omega
  · rintro z items m1 M1 Cn hC ⟨rest, dn, ks, x3, x4, hi, hd, hkl, hks, rfl, rfl⟩
    refine ⟨srcV_none, ?_⟩
    cases rest with
    | nil => cases hi
    | cons r rest =>
      rw [List.map_cons] at hi
      injection hi with e1 e2
      subst e1
      subst e2
      have hr := ht.rps r (by rw [← hd]; simp)
      have hd2 : (dn ++ [r]) ++ rest = t.1 := by rw [← hd]; simp
      obtain ⟨k1, hk1⟩ := Option.isSome_iff_exists.mp hr.key
      have i1 := keyL_isV hr.row hk1
      have hdl : dn.length < 40 := by
        have h2 := congrArg List.length hd
        rw [List.length_append, List.length_cons] at h2
        have := ht.rl
        omega
      walk_at "rd"
      refine ⟨sc, rfl, hr.nm, hsc, ?_⟩
      rw [hk1]
      simp only [Option.getD_some]
      refine ⟨by rw [hr.nm, row_ok i1 61]; rfl, List.all_eq_true.mpr fun z hz => ?_, ?_⟩
      · obtain ⟨K, hK, rfl⟩ := List.mem_map.mp hz
        have := row_ok (hks K hK).1 61
        simp [plD, dOk_tup, dOk_str, (hks K hK).2.1, this]
      split
      · refine ⟨⟨_, rfl⟩, _, rfl, by rw [List.length_map]; omega, ?_⟩
        refine fg_of (hC _ _ ⟨rest, dn ++ [r], ks ++ [(r.2.2.1, k1)], _, _, rfl, hd2, by rw [List.length_append, List.length_append, List.length_singleton, List.length_singleton]; omega, fun K hK => ?_, by rw [List.map_append]; rfl, rfl⟩)
        rcases List.mem_append.mp hK with hK | hK
        · exact hks K hK
        · rw [List.mem_singleton.mp hK]
          refine ⟨i1, hr.nm, ?_⟩
          have := hr.key
          unfold keyL at this
          rw [Option.isSome_map] at this
          exact this
      · exact fg_of (hC _ _ ⟨rest, dn ++ [r], ks, _, _, rfl, hd2, by rw [List.length_append]; omega, hks, rfl, rfl⟩)
/-! ### the world -/
structure WorldOk (sc : List Ent) (x y z : D) (ws : List Str) (g : Int) (t : Td) : Prop where
  ent : ∀ e ∈ sc, enOk e
  ri : ∃ e ∈ sc, 0 < e.2.2
  sl : sc.length ≤ 3
  vx : isV x
  vy : isV y
  vz : isV z
  nd : [x, y, z].Nodup
  wn : ws ≠ []
  wl : ws.length ≤ 100
  wo : ∀ w ∈ ws, PyData.strOk w = true
  g0 : 0 < g
  td : TdOk sc t
  tn : t.1 ≠ []
  tl : t.1.length ≤ 8
  vl : t.2.1.length ≤ 5
def woD (sc : List Ent) (x y z : D) (ws : List Str) (g : Int) (t : Td) : D := .lst [.tup (sc.map enE), .lst [x, y, z], .lst (ws.map D.str), .int g, tdD t]
theorem items_woD {sc : List Ent} {x y z : D} {ws : List Str} {g : Int} {t : Td} {M : DM} : dItems (woD sc x y z ws g t) M = some [.tup (sc.map enE), .lst [x, y, z], .lst (ws.map D.str), .int g, tdD t] := rfl
local macro_rules | `(tactic| walk_at "rd") => `(tactic| simp only [dSeq, dSet, dIf, dTst, dOp, dVar, dC, dRet, dRetN, dNext, dDrop, dBreak, dCont, dAnd, dOr, dNot, dAndV, dOrV, dNotV, dIfE, dTup, dLstF, dLst, dCons, dNil, dCB, dCall, dUn, dNegI, dI, dI0, dEq, dNe, dIs, dIsNot, dIn, dNotIn, dIx, isN_non, isN_bl, isN_int, isN_str, isN_tup, isN_lst, isN_rf, DL.rLen, rInt, rAbs, rMax2, rMin2, DL.rGcd, rTuple, rList, rIs, rIsT, ar0, ar1, ar2, ar3, ar4, ar5, ar6, ar7, ar8, dEnds, dMt, dMt0, mAppend, mPop, mReverse, dSetL, dPut, dAsg, dgName, dgTup, dgCons, dgNil, dFor, diSeq, diRng1, diRng2, dLcF, dLc, dwipe, dFz, dstart, List.map_cons, List.map_nil, List.length_cons, List.length_nil, List.cons_append, List.nil_append, List.append_nil, List.replicate, Nat.reduceAdd, Nat.reduceSub, Nat.reduceLeDiff, Int.reduceNeg, List.set_cons_zero, List.set_cons_succ, List.getElem?_cons_zero, List.getElem?_cons_succ, Option.some.injEq, exists_eq_left', exists_eq_left, exists_eq_right, exists_eq, exists_and_left, exists_and_right, D.int.injEq, D.bl.injEq, D.str.injEq, D.tup.injEq, D.lst.injEq, D.ref.injEq, D.ty.injEq, D.dct.injEq, List.cons.injEq, and_assoc, and_true, true_and, and_self, reduceCtorEq, false_and, and_false, if_true, if_false, if_pos, ite_true, ite_false, Bool.false_eq_true, decide_eq_true_eq, Bool.not_eq_true', decide_eq_false_iff_not, Bool.not_true, Bool.not_false, decide_true, decide_false, eqv_int, eqv_str, eqv_bl, dOk_int, dOk_bl, dOk_non, dOk_tup, dOk_lst, dOk_str, List.all_cons, List.all_nil, Bool.and_true, Bool.true_and, Bool.and_self, dItems_tup, dItems_lst, dItems_rf, CMulA, CDivA, CPowA, Int.reduceLT, Int.reduceLE, Int.reducePow, Int.reduceToNat, Int.reduceMul, Int.reduceAdd, Int.reduceSub, Nat.reducePow, true_or, or_true, ne_eq, not_false_eq_true, not_true_eq_false, dAt_tup, dAt_lst, dAt_rf, dLenOf_tup, dLenOf_lst, dLenOf_rf, dLenOf_str, dTyN_non, dTyN_bl, dTyN_int, dTyN_str, dTyN_tup, dTyN_lst, dTyN_dct, dTyN_rf, dIntOf_int, dIntOf_bl, knownT, subT, atI_0, atI_1, atI_2, atI_3, atI_4, atI_5, atI_neg1, mput_same, mput_mput, eqv_non, tyNames, Option.map_some, String.reduceBEq, Bool.or_true, Bool.true_or, Bool.or_false, Bool.false_or, Bool.false_and, Bool.and_false, beq_self_eq_true, BEq.rfl, List.any_cons, List.any_nil, sizeLine_eq, rLenB, Bool.true_eq_false, implies_true, Nat.zero_le, Bool.or_self, String.reduceEq, dAdd_ii, dAdd_ss, dAdd_tt, dMulA_ii, dMulA_si, dIxS_str, dIxS_tup, dIxS_lst, dIxS_ref, dCat, dCatF, dRep, dSl, dNoP, dPart, dJoin, mExtend, mIndex, rAnyL, rAllL, rSumL, rMaxL, rMinL, dLRg, diEnum, rSortD, dLc2F, dLc2, dYes, diEnumT, dSlS, rSortK, dFzS, dTupRev, diRev, diZip, dMulT, zipD, dDc, dDGet1, dLtD, dGtD, rListK, dUpper, diStr, dInS, dSortL, dSortSet, dStar, rIntS, rStrI, dKIx, dKIn, dKNotIn, rLenK, dKNew, dFzK, dFzD, dKPut, diKeys, diVals, diItems, mInsert, mPopAt, dKGet1, dKGet2, dKc, dDict_dct, dDict_put, isKb_int, isKb_str, true_implies, false_implies, dDIx, dDIn, dDNotIn, dSetD, dDNew, dSortLen, sortLenB, rSortO, dMIx, dMIn, dMNotIn, dMGet2, diMItems, diMKeys, dFzM, dFzMS, dDSetDf, dDGet2, items_enE, oD_n, oD_s, stD, isN_oD, oD_ok, eqv_oD, items_rpD, items_vdD, items_tdD, items_ptD, items_woD])
local macro_rules | `(tactic| walk_at "st") => `(tactic| (refine seq_i ?_; simp only [dSet, dIf, dTst, dOp, dVar, dC, dRet, dRetN, dNext, dDrop, dBreak, dCont, dAnd, dOr, dNot, dAndV, dOrV, dNotV, dIfE, dTup, dLstF, dLst, dCons, dNil, dCB, dCall, dUn, dNegI, dI, dI0, dEq, dNe, dIs, dIsNot, dIn, dNotIn, dIx, isN_non, isN_bl, isN_int, isN_str, isN_tup, isN_lst, isN_rf, DL.rLen, rInt, rAbs, rMax2, rMin2, DL.rGcd, rTuple, rList, rIs, rIsT, ar0, ar1, ar2, ar3, ar4, ar5, ar6, ar7, ar8, dEnds, dMt, dMt0, mAppend, mPop, mReverse, dSetL, dPut, dAsg, dgName, dgTup, dgCons, dgNil, dFor, diSeq, diRng1, diRng2, dLcF, dLc, dwipe, dFz, dstart, List.map_cons, List.map_nil, List.length_cons, List.length_nil, List.cons_append, List.nil_append, List.append_nil, List.replicate, Nat.reduceAdd, Nat.reduceSub, Nat.reduceLeDiff, Int.reduceNeg, List.set_cons_zero, List.set_cons_succ, List.getElem?_cons_zero, List.getElem?_cons_succ, Option.some.injEq, exists_eq_left', exists_eq_left, exists_eq_right, exists_eq, exists_and_left, exists_and_right, D.int.injEq, D.bl.injEq, D.str.injEq, D.tup.injEq, D.lst.injEq, D.ref.injEq, D.ty.injEq, D.dct.injEq, List.cons.injEq, and_assoc, and_true, true_and, and_self, reduceCtorEq, false_and, and_false, if_true, if_false, if_pos, ite_true, ite_false, Bool.false_eq_true, decide_eq_true_eq, Bool.not_eq_true', decide_eq_false_iff_not, Bool.not_true, Bool.not_false, decide_true, decide_false, eqv_int, eqv_str, eqv_bl, dOk_int, dOk_bl, dOk_non, dOk_tup, dOk_lst, dOk_str, List.all_cons, List.all_nil, Bool.and_true, Bool.true_and, Bool.and_self, dItems_tup, dItems_lst, dItems_rf, CMulA, CDivA, CPowA, Int.reduceLT, Int.reduceLE, Int.reducePow, Int.reduceToNat, Int.reduceMul, Int.reduceAdd, Int.reduceSub, Nat.reducePow, true_or, or_true, ne_eq, not_false_eq_true, not_true_eq_false, dAt_tup, dAt_lst, dAt_rf, dLenOf_tup, dLenOf_lst, dLenOf_rf, dLenOf_str, dTyN_non, dTyN_bl, dTyN_int, dTyN_str, dTyN_tup, dTyN_lst, dTyN_dct, dTyN_rf, dIntOf_int, dIntOf_bl, knownT, subT, atI_0, atI_1, atI_2, atI_3, atI_4, atI_5, atI_neg1, mput_same, mput_mput, eqv_non, tyNames, Option.map_some, String.reduceBEq, Bool.or_true, Bool.true_or, Bool.or_false, Bool.false_or, Bool.false_and, Bool.and_false, beq_self_eq_true, BEq.rfl, List.any_cons, List.any_nil, sizeLine_eq, rLenB, Bool.true_eq_false, implies_true, Nat.zero_le, Bool.or_self, String.reduceEq, dAdd_ii, dAdd_ss, dAdd_tt, dMulA_ii, dMulA_si, dIxS_str, dIxS_tup, dIxS_lst, dIxS_ref, dCat, dCatF, dRep, dSl, dNoP, dPart, dJoin, mExtend, mIndex, rAnyL, rAllL, rSumL, rMaxL, rMinL, dLRg, diEnum, rSortD, dLc2F, dLc2, dYes, diEnumT, dSlS, rSortK, dFzS, dTupRev, diRev, diZip, dMulT, zipD, dDc, dDGet1, dLtD, dGtD, rListK, dUpper, diStr, dInS, dSortL, dSortSet, dStar, rIntS, rStrI, dKIx, dKIn, dKNotIn, rLenK, dKNew, dFzK, dFzD, dKPut, diKeys, diVals, diItems, mInsert, mPopAt, dKGet1, dKGet2, dKc, dDict_dct, dDict_put, isKb_int, isKb_str, true_implies, false_implies, dDIx, dDIn, dDNotIn, dSetD, dDNew, dSortLen, sortLenB, rSortO, dMIx, dMIn, dMNotIn, dMGet2, diMItems, diMKeys, dFzM, dFzMS, dDSetDf, dDGet2, items_enE, oD_n, oD_s, stD, isN_oD, oD_ok, eqv_oD, items_rpD, items_vdD, items_tdD, items_ptD, items_woD]))
local macro_rules | `(tactic| walk_at "p") => `(tactic| simp only [dRet, dOp, dVar, dCall, dCB, dCons, dNil, ar0, ar1, ar2, ar3, ar4, ar5, DL.rLen, dIx, dEnds, dstart, List.map_cons, List.map_nil, List.length_cons, List.length_nil, List.cons_append, List.nil_append, List.replicate, Nat.reduceAdd, Nat.reduceSub, Nat.reduceLeDiff, List.getElem?_cons_zero, List.getElem?_cons_succ, Option.some.injEq, exists_eq_left', exists_eq_left, exists_and_left, exists_and_right, List.cons.injEq, and_assoc, and_true, true_and, D.ref.injEq, D.int.injEq])
local macro_rules | `(tactic| walk_at "s1") => `(tactic| simp only [dSet, dIf, dTst, dOp, dVar, dC, dRet, dRetN, dNext, dDrop, dBreak, dCont, dAnd, dOr, dNot, dAndV, dOrV, dNotV, dIfE, dTup, dLstF, dLst, dCons, dNil, dCB, dCall, dUn, dNegI, dI, dI0, dEq, dNe, dIs, dIsNot, dIn, dNotIn, dIx, isN_non, isN_bl, isN_int, isN_str, isN_tup, isN_lst, isN_rf, DL.rLen, rInt, rAbs, rMax2, rMin2, DL.rGcd, rTuple, rList, rIs, rIsT, ar0, ar1, ar2, ar3, ar4, ar5, ar6, ar7, ar8, dEnds, dMt, dMt0, mAppend, mPop, mReverse, dSetL, dPut, dAsg, dgName, dgTup, dgCons, dgNil, dFor, diSeq, diRng1, diRng2, dLcF, dLc, dwipe, dFz, dstart, List.map_cons, List.map_nil, List.length_cons, List.length_nil, List.cons_append, List.nil_append, List.append_nil, List.replicate, Nat.reduceAdd, Nat.reduceSub, Nat.reduceLeDiff, Int.reduceNeg, List.set_cons_zero, List.set_cons_succ, List.getElem?_cons_zero, List.getElem?_cons_succ, Option.some.injEq, exists_eq_left', exists_eq_left, exists_eq_right, exists_eq, exists_and_left, exists_and_right, D.int.injEq, D.bl.injEq, D.str.injEq, D.tup.injEq, D.lst.injEq, D.ref.injEq, D.ty.injEq, D.dct.injEq, List.cons.injEq, and_assoc, and_true, true_and, and_self, reduceCtorEq, false_and, and_false, if_true, if_false, if_pos, ite_true, ite_false, Bool.false_eq_true, decide_eq_true_eq, Bool.not_eq_true', decide_eq_false_iff_not, Bool.not_true, Bool.not_false, decide_true, decide_false, eqv_int, eqv_str, eqv_bl, dOk_int, dOk_bl, dOk_non, dOk_tup, dOk_lst, dOk_str, List.all_cons, List.all_nil, Bool.and_true, Bool.true_and, Bool.and_self, dItems_tup, dItems_lst, dItems_rf, CMulA, CDivA, CPowA, Int.reduceLT, Int.reduceLE, Int.reducePow, Int.reduceToNat, Int.reduceMul, Int.reduceAdd, Int.reduceSub, Nat.reducePow, true_or, or_true, ne_eq, not_false_eq_true, not_true_eq_false, dAt_tup, dAt_lst, dAt_rf, dLenOf_tup, dLenOf_lst, dLenOf_rf, dLenOf_str, dTyN_non, dTyN_bl, dTyN_int, dTyN_str, dTyN_tup, dTyN_lst, dTyN_dct, dTyN_rf, dIntOf_int, dIntOf_bl, knownT, subT, atI_0, atI_1, atI_2, atI_3, atI_4, atI_5, atI_neg1, mput_same, mput_mput, eqv_non, tyNames, Option.map_some, String.reduceBEq, Bool.or_true, Bool.true_or, Bool.or_false, Bool.false_or, Bool.false_and, Bool.and_false, beq_self_eq_true, BEq.rfl, List.any_cons, List.any_nil, sizeLine_eq, rLenB, Bool.true_eq_false, implies_true, Nat.zero_le, Bool.or_self, String.reduceEq, dAdd_ii, dAdd_ss, dAdd_tt, dMulA_ii, dMulA_si, dIxS_str, dIxS_tup, dIxS_lst, dIxS_ref, dCat, dCatF, dRep, dSl, dNoP, dPart, dJoin, mExtend, mIndex, rAnyL, rAllL, rSumL, rMaxL, rMinL, dLRg, diEnum, rSortD, dLc2F, dLc2, dYes, diEnumT, dSlS, rSortK, dFzS, dTupRev, diRev, diZip, dMulT, zipD, dDc, dDGet1, dLtD, dGtD, rListK, dUpper, diStr, dInS, dSortL, dSortSet, dStar, rIntS, rStrI, dKIx, dKIn, dKNotIn, rLenK, dKNew, dFzK, dFzD, dKPut, diKeys, diVals, diItems, mInsert, mPopAt, dKGet1, dKGet2, dKc, dDict_dct, dDict_put, isKb_int, isKb_str, true_implies, false_implies, dDIx, dDIn, dDNotIn, dSetD, dDNew, dSortLen, sortLenB, rSortO, dMIx, dMIn, dMNotIn, dMGet2, diMItems, diMKeys, dFzM, dFzMS, dDSetDf, dDGet2, items_enE, oD_n, oD_s, stD, isN_oD, oD_ok, eqv_oD, items_rpD, items_vdD, items_tdD, items_ptD, items_woD])
abbrev sp_l_world : DSp := ar2 fun a b M Q => ∃ (p : Addr) (n : Nat), a = .ref p ∧ b = .int n ∧ Dr M p ∧ 0 < n ∧ n ≤ 8 ∧ ∀ (o : DO) (sc : List Ent) (x y z : D) (ws : List Str) (g : Int) (t : Td), DrO o → WorldOk sc x y z ws g t → Q (woD sc x y z ws g t) (mput M p o)
theorem ok_l_world (F : Def K mg "_law_world" s_l_world ["draws", "many"]) (B : Bi K mg) (I : Im mg) (c_l_pick : Cal P w K mg base 2 "_law_pick" ["draws", "row"] sp_l_pick) (c_l_words : Cal P w K mg base 2 "_law_words" ["draws", "many"] sp_l_words) (c_l_values : Cal P w K mg base 3 "_law_values" ["draws", "words"] sp_l_values) (c_l_schema : Cal P w K mg base 3 "_law_schema" ["draws", "words"] sp_l_schema) (c_l_told : Cal P w K mg base 7 "_law_told" ["draws", "schema", "values", "sources", "most", "great"] sp_l_told) (c_l_scale : Cal P w K mg base 3 "_law_scale" ["draws"] sp_l_scale) (c_l_far : Cal P w K mg base 3 "_law_far" ["draws", "told"] sp_l_far) : Cal P w K mg base 8 "_law_world" ["draws", "many"] sp_l_world := by
  have sc := sc_l_world
  refine F.cal sc (fun ds M Q h => len2 h) (fun f cdv A outer s H E hr => (ds_cons (ds_set (i := 2) sc.nd rfl (Or.inl rfl) (d_call c_l_words (hr.mono (by first | decide | omega)) rfl (da_cons (d_v 0) (da_cons d_int da_nil))))
    (ds_cons (ds_set (i := 3) sc.nd rfl (Or.inl rfl) (d_call c_l_schema (hr.mono (by first | decide | omega)) rfl (da_cons (d_v 0) (da_cons (d_v 2) da_nil))))
    (ds_cons (ds_set (i := 4) sc.nd rfl (Or.inl rfl) (d_call c_l_values (hr.mono (by first | decide | omega)) rfl (da_cons (d_v 0) (da_cons (d_v 2) da_nil))))
    (ds_cons (ds_set (i := 5) sc.nd rfl (Or.inl rfl) (d_call c_l_scale (hr.mono (by first | decide | omega)) rfl (da_cons (d_v 0) da_nil)))
    (ds_cons (ds_set (i := 6) sc.nd rfl (Or.inl rfl) (d_call c_l_pick (hr.mono (by first | decide | omega)) rfl (da_cons (d_v 0) (da_cons (d_lstF (da_cons (d_sl (d_v 2) (dp_some d_int) (dp_some d_int)) (da_cons (d_sl (d_v 2) (dp_some d_int) (dp_some d_int)) (da_cons (d_sl (d_v 2) (dp_some d_int) (dp_some d_int)) da_nil)))) da_nil))))
    (ds_one (ds_ret (d_lstF (da_cons (d_v 3) (da_cons (d_v 4) (da_cons (d_v 6) (da_cons (d_v 5) (da_cons (d_call c_l_far (hr.mono (by first | decide | omega)) rfl (da_cons (d_v 0) (da_cons (d_call c_l_told (hr.mono (by first | decide | omega)) rfl (da_cons (d_v 0) (da_cons (d_v 3) (da_cons (d_v 4) (da_cons (d_v 6) (da_cons (d_v 1) (da_cons (d_v 5) da_nil))))))) da_nil))) da_nil)))))))))))))) (fun ds M Q h => ?_)
  obtain ⟨a, b, rfl, p, n, rfl, rfl, hp, hn0, hn, h⟩ := h
  walk_at "st"
  refine ⟨8, rfl, by omega, hp, fun o1 us ho1 hl hd hu => ?_⟩
  obtain ⟨w0, w1, w2, w3, w4, w5, w6, w7, rfl⟩ : ∃ w0 w1 w2 w3 w4 w5 w6 w7, us = [w0, w1, w2, w3, w4, w5, w6, w7] := by
    match us, hl with
    | [w0, w1, w2, w3, w4, w5, w6, w7], _ => exact ⟨_, _, _, _, _, _, _, _, rfl⟩
  have hok : ∀ w ∈ [w0, w1, w2, w3, w4, w5, w6, w7], PyData.strOk w = true := fun w m => wok_str (hu w m)
  have hne : w0 ≠ w1 := fun z => by
    rw [z] at hd
    simp at hd
  walk_at "st"
  refine ⟨⟨_, rfl⟩, dr_put ho1, hok _ (by simp), hok _ (by simp), hok _ (by simp), fun o2 sc ho2 hsc hri hpm => ?_⟩
  have hsl : sc.length ≤ 3 := by
    rcases hpm with hpm | hpm
    · have := hpm.length_eq
      simp at this
      omega
    · have := hpm.length_eq
      simp at this
      omega
  walk_at "st"
  refine ⟨[w2, w3, w4, w5, w6, w7], rfl, dr_put ho2, hne, hok _ (by simp), hok _ (by simp), fun w m => hok w (List.mem_cons_of_mem _ (List.mem_cons_of_mem _ m)), fun o3 x y z ho3 hnd hx hy hz => ?_⟩
  walk_at "st"
  refine ⟨dr_put ho3, fun o4 g ho4 hg => ?_⟩
  walk_at "st"
  refine ⟨dr_put ho4, fun o5 sr ho5 hsr => ?_⟩
  obtain ⟨ws, rfl, hwn, hwl, hws⟩ : ∃ ws : List Str, sr = .lst (ws.map D.str) ∧ ws ≠ [] ∧ ws.length ≤ 100 ∧ ∀ w ∈ ws, w ∈ [w0, w1, w2, w3, w4, w5, w6, w7] := by
    simp only [List.mem_cons, List.not_mem_nil, or_false] at hsr
    rcases hsr with rfl | rfl | rfl
    · exact ⟨[w3, w4], rfl, by simp, by simp, by simp⟩
    · exact ⟨[w3, w4, w5], rfl, by simp, by simp, by simp⟩
    · exact ⟨[w3, w4, w5, w6, w7], rfl, by simp, by simp, by simp⟩
  have hwo : ∀ w ∈ ws, PyData.strOk w = true := fun w hw => hok w (hws w hw)
  refine ⟨sc, rfl, ws, rfl, n, rfl, dr_put ho5, hn0, hn, hg, hx, hy, hz, hwn, hwl, hwo, hsc, hri, fun o6 t ho6 ht htn htl hvl => ⟨sc, t, rfl, dr_put ho6, ht, htn, fun o7 t' ho7 ht' htn' hl1 hl2 => ret_of (h o7 sc x y z ws g t' ho7 ⟨hsc, hri, hsl, hx, hy, hz, hnd, hwn, hwl, hwo, hg, ht', htn', by omega, by omega⟩)⟩⟩
abbrev sp_l_rivals : DSp := ar2 fun a b M Q => ∃ (p : Addr) (sc : List Ent) (x y z : D) (ws : List Str) (g : Int) (t : Td), a = .ref p ∧ b = woD sc x y z ws g t ∧ Dr M p ∧ WorldOk sc x y z ws g t ∧ ∀ (o : DO) (r1 r2 : Rp) (b : Int) (E : Option Int) (s : St), DrO o → RpOk sc r1 → RpOk sc r2 → 0 ≤ b → r1.2.2.2.2 = [(b, E)] → r2.2.2.2.2 = [s] → Q (.tup [rpD r1, rpD r2]) (mput M p o)
theorem ok_l_rivals (F : Def K mg "_law_rivals" s_l_rivals ["draws", "world"]) (B : Bi K mg) (I : Im mg) (c_l_take : Cal P w K mg base 1 "_law_take" ["draws", "many"] sp_l_take) (c_l_pick : Cal P w K mg base 2 "_law_pick" ["draws", "row"] sp_l_pick) (c_l_drawn_row : Cal P w K mg base 3 "_law_drawn_row" ["draws", "table", "values"] sp_l_drawn_row) (c_l_last : Cal P w K mg base 1 "_law_last" ["told"] sp_l_last) : Cal P w K mg base 4 "_law_rivals" ["draws", "world"] sp_l_rivals := by
  have sc := sc_l_rivals
  refine F.cal sc (fun ds M Q h => len2 h) (fun f cdv A outer s H E hr => (ds_cons (ds_set (i := 2) sc.nd rfl (Or.inl rfl) (d_ix x_ix (d_lcF rfl sc.nd (own := [("table", 2)]) (di_seq (d_ix x_ix (d_v 1) d_int (fun _ _ => rfl))) (blkOk_by (N := N_l_rivals) (sc := defScope s_l_rivals) (by decide +kernel)) (by decide) (fun _ _ _ _ _ => (dg_name (i := 2) sc.nd rfl (Or.inl rfl))) (fun _ _ _ _ _ => (dts_one (dt_cmp o_gt (d_ix x_ix (d_v 2) d_int (fun _ _ => rfl)) d_int (nomark _)))) (fun _ _ _ _ _ => (d_v 2))) d_int (fun _ _ => rfl)))
    (ds_cons (ds_set (i := 3) sc.nd rfl (Or.inr rfl) (d_call c_l_drawn_row (hr.mono (by first | decide | omega)) rfl (da_cons (d_v 0) (da_cons (d_v 2) (da_cons (d_ix x_ix (d_v 1) d_int (fun _ _ => rfl)) da_nil)))))
    (ds_cons (ds_set (i := 4) sc.nd rfl (Or.inr rfl) (d_op o_add (d_ix x_ix (d_v 2) d_int (fun _ _ => rfl)) (d_call c_l_take (hr.mono (by first | decide | omega)) rfl (da_cons (d_v 0) (da_cons (d_ix x_ix (d_v 2) d_int (fun _ _ => rfl)) da_nil)))))
    (ds_cons (ds_set (i := 5) sc.nd rfl (Or.inl rfl) (d_call c_l_pick (hr.mono (by first | decide | omega)) rfl (da_cons (d_v 0) (da_cons (d_lcF rfl sc.nd (own := [("value", 5)]) (di_seq (d_ix x_ix (d_v 1) d_int (fun _ _ => rfl))) (blkOk_by (N := N_l_rivals) (sc := defScope s_l_rivals) (by decide +kernel)) (by decide) (fun _ _ _ _ _ => (dg_name (i := 5) sc.nd rfl (Or.inl rfl))) (fun _ _ _ _ _ => (dts_one (dt_cmp (o_ne (hu_eq hr)) (d_v 5) (d_ix x_ix (d_v 3) (d_v 4) (fun _ _ => rfl)) (nomark _)))) (fun _ _ _ _ _ => (d_v 5))) da_nil))))
    (ds_cons (ds_set (i := 6) sc.nd rfl (Or.inl rfl) (d_call c_l_take (hr.mono (by first | decide | omega)) rfl (da_cons (d_v 0) (da_cons d_int da_nil))))
    (ds_cons (ds_set (i := 7) sc.nd rfl (Or.inl rfl) (d_op o_add (d_op o_add (d_v 6) d_int) (d_call c_l_take (hr.mono (by first | decide | omega)) rfl (da_cons (d_v 0) (da_cons d_int da_nil)))))
    (ds_cons (ds_set (i := 8) sc.nd rfl (Or.inl rfl) (d_lst (da_cons (d_tup (da_cons (d_tup (da_cons (d_op o_mul (d_v 6) (d_ix x_ix (d_v 1) d_int (fun _ _ => rfl))) (da_cons (d_op o_mul (d_v 7) (d_ix x_ix (d_v 1) d_int (fun _ _ => rfl))) da_nil))) da_nil)) (da_cons (d_tup (da_cons (d_tup (da_cons (d_op o_mul (d_v 6) (d_ix x_ix (d_v 1) d_int (fun _ _ => rfl))) (da_cons (d_op o_mul (d_op o_add (d_v 7) (d_call c_l_take (hr.mono (by first | decide | omega)) rfl (da_cons (d_v 0) (da_cons d_int da_nil)))) (d_ix x_ix (d_v 1) d_int (fun _ _ => rfl))) da_nil))) da_nil)) da_nil))))
    (ds_cons (ds_if (dt_cmp (o_eq (hu_eq hr)) (d_call c_l_take (hr.mono (by first | decide | omega)) rfl (da_cons (d_v 0) (da_cons d_int da_nil))) d_int (nomark _))
    (ds_one (ds_put (d_tup (da_cons (d_tup (da_cons (d_op o_mul (d_v 6) (d_ix x_ix (d_v 1) d_int (fun _ _ => rfl))) (da_cons d_non da_nil))) da_nil)) (d_v 8) d_int s_lst))
    ds_nil)
    (ds_cons (ds_set (i := 9) sc.nd rfl (Or.inl rfl) (d_op o_add (d_op o_add (d_call c_l_last (hr.mono (by first | decide | omega)) rfl (da_cons (d_ix x_ix (d_v 1) d_int (fun _ _ => rfl)) da_nil)) d_int) (d_call c_l_take (hr.mono (by first | decide | omega)) rfl (da_cons (d_v 0) (da_cons d_int da_nil)))))
    (ds_cons (ds_set (i := 10) sc.nd rfl (Or.inl rfl) (d_tup (da_cons (d_v 9) (da_cons (d_call c_l_pick (hr.mono (by first | decide | omega)) rfl (da_cons (d_v 0) (da_cons (d_ix x_ix (d_v 1) d_int (fun _ _ => rfl)) da_nil))) (da_cons (d_ix x_ix (d_v 2) d_int (fun _ _ => rfl)) (da_cons (d_v 3) (da_cons (d_ix x_ix (d_v 8) d_int (fun _ _ => rfl)) da_nil)))))))
    (ds_cons (ds_set (i := 11) sc.nd rfl (Or.inl rfl) (d_op o_addA (d_op o_addA (d_sl (d_v 3) dp_none (dp_some (d_v 4))) (d_tup (da_cons (d_v 5) da_nil))) (d_sl (d_v 3) (dp_some (d_op o_add (d_v 4) d_int)) dp_none)))
    (ds_one (ds_ret (d_tup (da_cons (d_v 10) (da_cons (d_tup (da_cons (d_op o_add (d_v 9) d_int) (da_cons (d_call c_l_pick (hr.mono (by first | decide | omega)) rfl (da_cons (d_v 0) (da_cons (d_ix x_ix (d_v 1) d_int (fun _ _ => rfl)) da_nil))) (da_cons (d_ix x_ix (d_v 2) d_int (fun _ _ => rfl)) (da_cons (d_v 11) (da_cons (d_ix x_ix (d_v 8) d_int (fun _ _ => rfl)) da_nil)))))) da_nil))))))))))))))))) (fun ds M Q h => ?_)
  obtain ⟨a, b, rfl, p, sc, x, y, z, ws, g, t, rfl, rfl, hp, W, h⟩ := h
  walk_at "st"
  intro _
  refine lc_pure sc enE (fun e => decide (0 < e.2.2)) enE rfl srcV_none (fun e he M5 l5 C1 C2 h5 h6 => ?_) fun r hr => ?_
  · walk_at "s1"
    split
    · next c => exact h5 (decide_eq_true (by omega))
    · next c => exact h6 (decide_eq_false (by omega))
  rw [mdel_mput hr]
  obtain ⟨e, he, he0, hat⟩ : ∃ e ∈ sc, 0 < e.2.2 ∧ atI ((sc.filter fun e => decide (0 < e.2.2)).map enE) 0 = some (enE e) := by
    obtain ⟨e0', he0', hd0⟩ := W.ri
    cases ef : sc.filter fun e => decide (0 < e.2.2) with
    | nil => exact absurd (decide_eq_true hd0) (List.filter_eq_nil_iff.mp ef e0' he0')
    | cons e es =>
      have hm : e ∈ sc.filter fun e => decide (0 < e.2.2) := by rw [ef]; simp
      exact ⟨e, (List.mem_filter.mp hm).1, by simpa using (List.mem_filter.mp hm).2, atI_0 _ _⟩
  have hes := W.ent e he
  refine ⟨_, hat, ?_⟩
  walk_at "st"
  refine ⟨e, rfl, by have := hes.2; omega, by have := hes.2; omega, hp, fun o1 vs ho1 hvl hvm => ?_⟩
  walk_at "st"
  refine ⟨dr_put ho1, by omega, fun o2 r2 ho2 r20 r21 => ?_⟩
  obtain ⟨k, hk⟩ : ∃ k : Nat, (e.2.1 : Int) + r2 = (k : Int) := ⟨((e.2.1 : Int) + r2).toNat, by omega⟩
  rw [hk]
  have hkv : k < vs.length := by omega
  obtain ⟨vk, hvk⟩ : ∃ vk, vk = vs[k] := ⟨_, rfl⟩
  have hak : atI vs (k : Int) = some vk := by rw [atI_n, List.getElem?_eq_getElem hkv, hvk]
  have hvkm : vk ∈ [x, y, z] := hvm vk (by rw [hvk]; exact List.getElem_mem hkv)
  have vV := isV_of W.vx W.vy W.vz
  walk_at "st"
  refine lc_pure [x, y, z] (fun t => t) (fun t => !(D.eqv t vk)) (fun t => t) (by simp) srcV_none (fun u hu M5 l5 C1 C2 h5 h6 => ?_) fun q3 hq3 => ?_
  · walk_at "s1"
    refine ⟨vk, hak, isV_ok (vV u hu) 64, isV_ok (vV vk hvkm) 64, ?_⟩
    split
    · next c => exact h5 (by rw [c]; rfl)
    · next c => exact h6 (by simpa using c)
  rw [mdel_mput hq3]
  obtain ⟨fl, efl⟩ : ∃ fl, fl = [x, y, z].filter (fun t => !(D.eqv t vk)) := ⟨_, rfl⟩
  have hfl : ∀ u ∈ fl, isV u := fun u hu => by rw [efl] at hu; exact vV u (List.mem_filter.mp hu).1
  have hne : ∀ u ∈ [x, y, z], u ≠ vk → (!(D.eqv u vk)) = true := fun u hu e => by
    cases c : D.eqv u vk with
    | false => rfl
    | true => exact absurd ((eqv_pl u vk (isV_pl (vV u hu)) (isV_pl (vV vk hvkm))).mp c) e
  have hfn : fl ≠ [] := by
    have hnd := W.nd
    by_cases c : x = vk
    · have : y ≠ vk := fun z => by
        rw [c, z] at hnd
        simp at hnd
      exact List.ne_nil_of_mem (a := y) (by rw [efl]; exact List.mem_filter.mpr ⟨by simp, hne y (by simp) this⟩)
    · exact List.ne_nil_of_mem (a := x) (by rw [efl]; exact List.mem_filter.mpr ⟨by simp, hne x (by simp) c⟩)
  rw [← efl, show fl.map (fun t => t) = fl from List.map_id' fl]
  clear efl
  refine ⟨dr_put ho2, hfn, fun o3 v3 ho3 hv3 => ?_⟩
  walk_at "st"
  refine ⟨dr_put ho3, fun o4 r4 ho4 r40 r41 => ?_⟩
  walk_at "st"
  refine ⟨dr_put ho4, fun o5 r5 ho5 r50 r51 => ?_⟩
  walk_at "st"
  refine ⟨.inl ⟨by omega, by omega⟩, .inl ⟨by omega, by omega⟩, .inl ⟨by omega, by omega⟩, dr_put ho5, fun o6 r6 ho6 r60 r61 => ⟨.inl ⟨by omega, by omega⟩, fun q hq => ?_⟩⟩
  have hpq : p ≠ q := ne_of_fresh mput_same hq
  have hqM : M q = none := by
    rw [mput_ne hpq.symm] at hq
    exact hq
  have ok1 : ∀ c : Int, r4 < c → okS (r4 * g, some (c * g)) := fun c hc => ⟨Int.mul_nonneg r40 (by have := W.g0; omega), fun x hx => by
    cases hx
    exact Int.mul_lt_mul_of_pos_right hc W.g0⟩
  have can1 : ∀ {s : St}, okS s → Can [s] := fun {s} hs => ⟨fun u hu => by rw [List.mem_singleton.mp hu]; exact hs, List.pairwise_singleton _ _⟩
  refine seq_cut (fun m2 M2 => ∃ (o : DO) (s : St), DrO o ∧ okS s ∧ M2 = mput (mput M p o) q (.lst [spD [(r4 * g, some ((r4 + 1 + r5) * g))], spD [s]]) ∧ m2 = [some (.ref p), some (woD sc x y z ws g t), some (enE e), some (.tup vs), some (.int k), some v3, some (.int r4), some (.int (r4 + 1 + r5)), some (.ref q), none, none, none]) (fun Cn hC => ?_) ?_
  · walk_at "s1"
    refine ⟨dr_ne (dr_put ho6) hpq, fun o7 r7 ho7 _ _ => ?_⟩
    rw [mput_swap hpq]
    split
    · refine ⟨.inl ⟨by omega, by omega⟩, _, mput_same, 1, rfl, ?_⟩
      rw [mput_mput]
      exact hC _ _ ⟨o7, (r4 * g, none), ho7, ⟨Int.mul_nonneg r40 (by have := W.g0; omega), fun x hx => by cases hx⟩, rfl, rfl⟩
    · exact hC _ _ ⟨o7, (r4 * g, some ((r4 + 1 + r5 + r6) * g)), ho7, ok1 _ (by omega), rfl, rfl⟩
  rintro m2 M2 ⟨o7, s, ho7, hs, rfl, rfl⟩
  walk_at "st"
  refine ⟨t, rfl, W.tn, by have := W.tl; omega, by have := W.vl; omega, fun i => ⟨dr_ne (dr_put ho7) hpq, fun o8 r8 ho8 _ _ => ?_⟩⟩
  rw [mput_swap hpq]
  generalize (i + 1 + r8 : Int) = n1
  walk_at "st"
  have hsne : ws.map D.str ≠ [] := fun z => W.wn (List.map_eq_nil_iff.mp z)
  refine ⟨dr_ne (dr_put ho8) hpq, hsne, fun o9 x9 ho9 hx9 => ?_⟩
  obtain ⟨src1, hsrc1, rfl⟩ := List.mem_map.mp hx9
  rw [mput_swap hpq]
  refine ⟨_, by rw [mput_same], _, atI_0 _ _, ?_⟩
  walk_at "st"
  have hc1 : DL.cutD vs none (some (k : Int)) = vs.take k := cutD_to _ _
  have hc2 : DL.cutD vs (some ((k : Int) + 1)) none = vs.drop (k + 1) := by
    rw [show (k : Int) + 1 = ((k + 1 : Nat) : Int) by omega, cutD_from]
  rw [hc1, hc2]
  have hvn : vs.length ≤ 16 := by have := hes.2; omega
  refine ⟨by rw [List.length_take]; omega, by rw [List.length_append, List.length_take, List.length_drop, List.length_singleton]; omega, dr_ne (dr_put ho9) hpq, hsne, fun o10 x10 ho10 hx10 => ?_⟩
  obtain ⟨src2, hsrc2, rfl⟩ := List.mem_map.mp hx10
  rw [mput_swap hpq]
  have hev : ∀ v ∈ vs, isV v := fun v hv => vV v (hvm v hv)
  refine ⟨_, by rw [mput_same], spD [s], atI_1 _ _ _, ret_le (MLe.put (.refl _) (mput_fresh hpq hqM)) ?_⟩
  exact h o10 (n1, src1, e.1, vs, [(r4 * g, some ((r4 + 1 + r5) * g))]) (n1 + 1, src2, e.1, vs.take k ++ [v3] ++ vs.drop (k + 1), [s]) (r4 * g) (some ((r4 + 1 + r5) * g)) s ho10
    ⟨W.wo src1 hsrc1, hes.1, hev, keyL_in he _, can1 (ok1 _ (by omega)), by show 1 ≤ 20; omega⟩
    ⟨W.wo src2 hsrc2, hes.1, fun v hv => by
      rcases List.mem_append.mp hv with hv | hv
      · rcases List.mem_append.mp hv with hv | hv
        · exact hev v (List.mem_of_mem_take hv)
        · rw [List.mem_singleton.mp hv]
          exact hfl v3 hv3
      · exact hev v (List.mem_of_mem_drop hv), keyL_in he _, can1 hs, by show 1 ≤ 20; omega⟩
    (Int.mul_nonneg r40 (by have := W.g0; omega)) rfl rfl
abbrev sp_l_three_tellings : DSp := ar2 fun a b M Q => ∃ (p : Addr) (sc : List Ent) (x y z : D) (ws : List Str) (g : Int) (t : Td), a = .ref p ∧ b = woD sc x y z ws g t ∧ Dr M p ∧ WorldOk sc x y z ws g t ∧ ∀ (o : DO) (rs : List Rp) (r1 r2 : Rp) (s : St) (v : Vd), DrO o → (∀ r ∈ rs ++ [r1, r2], RpOk sc r) → rs.length ≤ 8 → VdOk sc v → r2.2.2.2.2 = [s] → Q (.lst [tdD (rs ++ [r1, r2], t.2), tdD (rs ++ [r1, r2], [], t.2.2), tdD (rs ++ [r1, r2], [v], t.2.2)]) (mput M p o)
theorem ok_l_three_tellings (F : Def K mg "_law_three_tellings" s_l_three_tellings ["draws", "world"]) (B : Bi K mg) (I : Im mg) (c_l_take : Cal P w K mg base 1 "_law_take" ["draws", "many"] sp_l_take) (c_l_rivals : Cal P w K mg base 4 "_law_rivals" ["draws", "world"] sp_l_rivals) : Cal P w K mg base 5 "_law_three_tellings" ["draws", "world"] sp_l_three_tellings := by
  have sc := sc_l_three_tellings
  refine F.cal sc (fun ds M Q h => len2 h) (fun f cdv A outer s H E hr => (ds_cons (ds_set (i := 2) sc.nd rfl (Or.inl rfl) (d_ix x_ix (d_v 1) d_int (fun _ _ => rfl)))
    (ds_cons (ds_set (i := 3) sc.nd rfl (Or.inl rfl) (d_call c_l_rivals (hr.mono (by first | decide | omega)) rfl (da_cons (d_v 0) (da_cons (d_v 1) da_nil))))
    (ds_cons (ds_set (i := 4) sc.nd rfl (Or.inl rfl) (d_op o_addA (d_ix x_ix (d_v 2) d_int (fun _ _ => rfl)) (d_v 3)))
    (ds_cons (ds_set (i := 5) sc.nd rfl (Or.inl rfl) (d_ix x_ix (d_v 3) (d_call c_l_take (hr.mono (by first | decide | omega)) rfl (da_cons (d_v 0) (da_cons d_int da_nil))) (fun _ _ => rfl)))
    (ds_cons (ds_set (i := 6) sc.nd rfl (Or.inl rfl) (d_ix x_ix (d_ix x_ix (d_ix x_ix (d_ix x_ix (d_v 3) d_int (fun _ _ => rfl)) d_int (fun _ _ => rfl)) d_int (fun _ _ => rfl)) d_int (fun _ _ => rfl)))
    (ds_cons (ds_set (i := 7) sc.nd rfl (Or.inl rfl) (d_tup (da_cons (d_op o_add (d_op o_add (d_ix x_ix (d_ix x_ix (d_v 3) d_int (fun _ _ => rfl)) d_int (fun _ _ => rfl)) d_int) (d_call c_l_take (hr.mono (by first | decide | omega)) rfl (da_cons (d_v 0) (da_cons d_int da_nil)))) (da_cons (d_ix x_ix (d_v 5) d_int (fun _ _ => rfl)) (da_cons (d_ix x_ix (d_v 5) d_int (fun _ _ => rfl)) (da_cons (d_tup (da_cons (d_tup (da_cons (d_v 6) (da_cons (d_op o_add (d_v 6) (d_ix x_ix (d_v 1) d_int (fun _ _ => rfl))) da_nil))) da_nil)) da_nil))))))
    (ds_one (ds_ret (d_lstF (da_cons (d_tup (da_cons (d_v 4) (da_cons (d_ix x_ix (d_v 2) d_int (fun _ _ => rfl)) (da_cons (d_ix x_ix (d_v 2) d_int (fun _ _ => rfl)) da_nil)))) (da_cons (d_tup (da_cons (d_v 4) (da_cons (d_tup da_nil) (da_cons (d_ix x_ix (d_v 2) d_int (fun _ _ => rfl)) da_nil)))) (da_cons (d_tup (da_cons (d_v 4) (da_cons (d_tup (da_cons (d_v 7) da_nil)) (da_cons (d_ix x_ix (d_v 2) d_int (fun _ _ => rfl)) da_nil)))) da_nil))))))))))))) (fun ds M Q h => ?_)
  obtain ⟨a, b, rfl, p, sc, x, y, z, ws, g, t, rfl, rfl, hp, W, h⟩ := h
  walk_at "st"
  walk_at "st"
  refine ⟨sc, x, y, z, ws, g, t, rfl, hp, W, fun o1 r1 r2 b E s ho1 hr1 hr2 hb es1 es2 => ?_⟩
  walk_at "st"
  refine ⟨by rw [List.length_map]; have := W.tl; omega, ?_⟩
  rw [show t.1.map rpD ++ [rpD r1, rpD r2] = (t.1 ++ [r1, r2]).map rpD by simp]
  walk_at "st"
  refine ⟨dr_put ho1, fun o2 k2 ho2 k20 k21 => ?_⟩
  obtain ⟨rb, hrb, hat⟩ : ∃ rb, RpOk sc rb ∧ atI [rpD r1, rpD r2] k2 = some (rpD rb) := by
    rcases (by omega : k2 = 0 ∨ k2 = 1) with rfl | rfl
    · exact ⟨r1, hr1, rfl⟩
    · exact ⟨r2, hr2, rfl⟩
  refine ⟨_, hat, ?_⟩
  walk_at "st"
  rw [es1]
  refine ⟨stD (b, E), atI_0 _ _, [.int b, oD E], rfl, .int b, atI_0 _ _, ?_⟩
  walk_at "rd"
  refine ⟨dr_put ho2, fun o3 k3 ho3 _ _ => ret_of (h o3 t.1 r1 r2 s (r2.1 + 1 + k3, rb.2.2.1, rb.2.2.2.1, [(b, some (b + g))]) ho3 (fun r hr => ?_) W.tl ⟨hrb.nm, hrb.row, hrb.key, ⟨fun u hu => ?_, List.pairwise_singleton _ _⟩, by show 1 ≤ 20; omega⟩ es2)⟩
  · rcases List.mem_append.mp hr with hr | hr
    · exact W.td.rps r hr
    · simp only [List.mem_cons, List.not_mem_nil, or_false] at hr
      rcases hr with rfl | rfl
      · exact hr1
      · exact hr2
  · rw [List.mem_singleton.mp hu]
    have := W.g0
    exact ⟨hb, fun x hx => by cases hx; show b < b + g; omega⟩
abbrev sp_l_moments : DSp := ar3 fun a b c M Q => ∃ (p : Addr) (ts : List Int) (b0 : Int), a = .ref p ∧ b = .lst (ts.map D.int) ∧ c = .int b0 ∧ Dr M p ∧ ts ≠ [] ∧ ∀ (o : DO) (ms : List Int), DrO o → ms.length ≤ 20 → Q (.lst (ms.map D.int)) (mput M p o)
theorem ok_l_moments (F : Def K mg "_law_moments" s_l_moments ["draws", "turns", "begin"]) (B : Bi K mg) (I : Im mg) (c_l_take : Cal P w K mg base 1 "_law_take" ["draws", "many"] sp_l_take) (c_l_pick : Cal P w K mg base 2 "_law_pick" ["draws", "row"] sp_l_pick) : Cal P w K mg base 3 "_law_moments" ["draws", "turns", "begin"] sp_l_moments := by
  have sc := sc_l_moments
  refine F.cal sc (fun ds M Q h => len3 h) (fun f cdv A outer s H E hr => (ds_cons (ds_set (i := 3) sc.nd rfl (Or.inl rfl) (d_lst (da_cons (d_v 2) (da_cons (d_op o_add (d_v 2) d_int) (da_cons (d_cb (c_max2 rfl) rfl B.b_max boot_max (da_cons d_int (da_cons (d_op o_sub (d_v 2) d_int) da_nil))) (da_cons d_int (da_cons (d_op o_add (d_op o_mul (d_ix x_ix (d_v 1) (d_neg d_int) (fun _ _ => rfl)) d_int) (d_op o_pow d_int d_int)) da_nil)))))))
    (ds_cons (ds_for PassesOwn.never rfl (di_range1 rfl B.b_range (da_cons d_int da_nil)) (dg_name (i := 4) sc.nd rfl (Or.inl rfl))
    (ds_cons (ds_set (i := 5) sc.nd rfl (Or.inl rfl) (d_call c_l_pick (hr.mono (by first | decide | omega)) rfl (da_cons (d_v 0) (da_cons (d_v 1) da_nil))))
    (ds_one (ds_expr (d_mt PySem.F.slot_list_append PySem.F.type_list_append m_append (d_v 3) (da_cons (d_cb (c_max2 rfl) rfl B.b_max boot_max (da_cons d_int (da_cons (d_op o_sub (d_op o_add (d_v 5) (d_call c_l_take (hr.mono (by first | decide | omega)) rfl (da_cons (d_v 0) (da_cons d_int da_nil)))) d_int) da_nil))) da_nil))))))
    (ds_one (ds_ret (d_fz (d_v 3))))))) (fun ds M Q h => ?_)
  obtain ⟨a, b, c, rfl, p, ts, b0, rfl, rfl, rfl, hp, hne, h⟩ := h
  obtain ⟨o0, e0, ho0⟩ := hp
  walk_at "st"
  obtain ⟨l, hl⟩ : ∃ l, ts.getLast? = some l := by
    cases e : ts.getLast? with
    | none => exact absurd (List.getLast?_eq_none_iff.mp e) hne
    | some l => exact ⟨l, rfl⟩
  refine ⟨.int l, by rw [List.getLast?_map, hl]; rfl, l, rfl, fun q hq => ?_⟩
  have hpq : p ≠ q := ne_of_fresh e0 hq
  obtain ⟨A, hA⟩ : ∃ A : List Int, A = [b0, b0 + 1, if b0 - 1 > 0 then b0 - 1 else 0, 0, l * 2 + 1000000000000000000000000000000] := ⟨_, rfl⟩
  have hAl : A.length = 5 := by rw [hA]; rfl
  rw [show [D.int b0, D.int (b0 + 1), D.int (if b0 - 1 > 0 then b0 - 1 else 0), D.int 0, D.int (l * 2 + 1000000000000000000000000000000)] = A.map D.int by rw [hA]; rfl]
  clear hA
  walk_at "st"
  intro _
  refine for_ind (fun items m1 M1 => ∃ (o : DO) (ms : List Int) (x4 x5 : Option D), DrO o ∧ ms.length + items.length = 10 ∧ M1 = mput (mput M p o) q (.lst (ms.map D.int)) ∧ m1 = [some (.ref p), some (.lst (ts.map D.int)), some (.int b0), some (.ref q), x4, x5]) ?_ ?_ _ _ _ ⟨o0, A, _, _, ho0, by simp [rangeD, hAl], by rw [mput_self e0], rfl⟩
  · rintro m1 M1 ⟨o, ms, x4, x5, ho, hml, rfl, rfl⟩
    refine ⟨srcV_none, ?_⟩
    walk_at "rd"
    refine ⟨_, rfl, ?_⟩
    rw [mdel_mput (mput_fresh hpq hq)]
    exact ret_of (h o ms ho (by rw [List.length_nil] at hml; omega))
  · rintro d items m1 M1 Cn hC ⟨o, ms, x4, x5, ho, hml, rfl, rfl⟩
    refine ⟨srcV_none, ?_⟩
    rw [List.length_cons] at hml
    walk_at "st"
    refine ⟨dr_ne (dr_put ho) hpq, fun z => hne (List.map_eq_nil_iff.mp z), fun o2 x2 ho2 hx2 => ?_⟩
    obtain ⟨i, hi, rfl⟩ := List.mem_map.mp hx2
    rw [mput_swap hpq]
    refine ⟨⟨_, by rw [mput_same]⟩, dr_ne (dr_put ho2) hpq, fun o3 r3 ho3 _ _ => ?_⟩
    rw [mput_swap hpq]
    refine ⟨i, rfl, _, mput_same, by rw [List.length_map]; omega, ?_⟩
    rw [mput_mput]
    exact fg_of (hC _ _ ⟨o3, ms ++ [if i + r3 - 1 > 0 then i + r3 - 1 else 0], _, _, ho3, by rw [List.length_append, List.length_singleton]; omega, by rw [List.map_append]; rfl, rfl⟩)
/-! ### what is due, against what is answered -/
theorem inS_same {s : St} {m m' : Int} (h : m ≤ m') (h1 : ¬ (m < s.1 ∧ s.1 ≤ m')) (h2 : ∀ e, s.2 = some e → ¬ (m < e ∧ e ≤ m')) : inS s m = inS s m' := by
  rw [Bool.eq_iff_iff, inS_iff, inS_iff]
  constructor
  · rintro ⟨a, b⟩
    exact ⟨by omega, fun e he => by have := h2 e he; have := b e he; omega⟩
  · rintro ⟨a, b⟩
    exact ⟨by omega, fun e he => by have := b e he; omega⟩
theorem hasS_same {ss : List St} {m m' : Int} (h : m ≤ m') (h1 : ∀ s ∈ ss, ∀ c, c = s.1 ∨ s.2 = some c → ¬ (m < c ∧ c ≤ m')) : hasS ss m = hasS ss m' := by
  unfold hasS
  exact any_same fun s hs => inS_same h (h1 s hs _ (.inl rfl)) fun e he => h1 s hs e (.inr he)
noncomputable def leftAt (sc : List Ent) (vs : List Vd) (r : Rp) (m : Int) : Bool := hasS r.2.2.2.2 m && !cutB sc vs r m
theorem left_cover {sc : List Ent} {t : Td} {ts : List Int} {r : Rp} (ht : TdOk sc t) (hr : r ∈ t.1) (T : TurnIn t ts) : CutS sc t.2.1 r (spb [] ts (ts.map (leftAt sc t.2.1 r))) := by
  have hnn : ∀ m ∈ ts, 0 ≤ m := fun m hm => by
    rcases (T.mem m).mp hm with rfl | ⟨ss, hss, s, hs, h⟩
    · exact Int.le_refl 0
    · have hc : Can ss := by
        rcases hss with ⟨r, hr, rfl⟩ | ⟨v, hv, rfl⟩
        · exact (ht.rps r hr).can
        · exact (ht.vds v hv).can
      have := hc.ok s hs
      rcases h with rfl | h
      · exact this.1
      · have h1 := this.1
        have h2 := this.2 m h
        omega
  have hcut : CutBy (leftAt sc t.2.1 r) (fun c => c ∈ ts) := fun m m' h0 h1 h2 => by
    have h3 : ∀ ss, ((∃ r ∈ t.1, r.2.2.2.2 = ss) ∨ ∃ v ∈ t.2.1, v.2.2.2 = ss) → hasS ss m = hasS ss m' := fun ss hss => hasS_same h1 fun s hs c hc z => h2 c ((T.mem c).mpr (.inr ⟨ss, hss, s, hs, hc⟩)) (by omega) z
    have h4 : cutB sc t.2.1 r m = cutB sc t.2.1 r m' := by
      unfold cutB
      congr 1
      refine propext (exists_congr fun v => and_congr_right fun hv => ?_)
      rw [h3 v.2.2.2 (.inr ⟨v, hv, rfl⟩)]
    unfold leftAt
    rw [h3 r.2.2.2.2 (.inl ⟨r, hr, rfl⟩), h4]
  obtain ⟨c1, c2⟩ := coverF (turnsF_of hcut T.asc hnn fun c hc _ => hc) hnn ((T.mem 0).mpr (.inl rfl))
  refine ⟨c1, fun m => (c2 m).trans ?_⟩
  unfold leftAt cutB
  rw [Bool.and_eq_true, Bool.not_eq_true', decide_eq_false_iff_not]
  refine ⟨fun z => z.2, fun z => ⟨?_, z⟩⟩
  obtain ⟨s, hs, k, _⟩ := hasS_iff.mp z.1
  have := ((ht.rps r hr).can.ok s hs).1
  omega
abbrev sp_l_cut_due : DSp := ar3 fun a b c M Q => ∃ (sc : List Ent) (t : Td) (ts : List Int), a = .tup (sc.map enE) ∧ b = tdD t ∧ c = .lst (ts.map D.int) ∧ (∀ e ∈ sc, PyData.strOk e.1 = true) ∧ TdOk sc t ∧ TurnIn t ts ∧ Q (.tup ((cutR sc t.2.1 t.1).map rpD)) M
theorem ok_l_cut_due (F : Def K mg "_law_cut_due" s_l_cut_due ["schema", "told", "turns"]) (B : Bi K mg) (I : Im mg) (c_l_has : Cal P w K mg base 1 "_law_has" ["span", "moment"] sp_l_has) (c_l_is_cut : Cal P w K mg base 2 "_law_is_cut" ["schema", "told", "report", "moment"] sp_l_is_cut) (c_l_span_by : Cal P w K mg base 1 "_law_span_by" ["turns", "flags"] sp_l_span_by) : Cal P w K mg base 3 "_law_cut_due" ["schema", "told", "turns"] sp_l_cut_due := by
  have sc := sc_l_cut_due
  refine F.cal sc (fun ds M Q h => len3 h) (fun f cdv A outer s H E hr => (ds_cons (ds_set (i := 3) sc.nd rfl (Or.inl rfl) (d_lst da_nil))
    (ds_cons (ds_for PassesOwn.never rfl (di_seq (d_ix x_ix (d_v 1) d_int (fun _ _ => rfl))) (dg_name (i := 4) sc.nd rfl (Or.inr rfl))
    (ds_cons (ds_setLcF (i := 5) rfl sc.nd rfl rfl (sw_true rfl rfl rfl (by decide +kernel)) (own := [("m", 7)]) (di_seq (d_v 2)) (blkOk_by (N := N_l_cut_due) (sc := defScope s_l_cut_due) (by decide +kernel)) (by decide) (fun _ _ _ _ _ => (dg_name (i := 7) sc.nd rfl (Or.inl rfl))) (fun _ _ _ _ _ => dts_nil) (fun _ _ _ _ _ => (d_and (d_call c_l_has (hr.mono (by first | decide | omega)) rfl (da_cons (d_ix x_ix (d_v 4) d_int (fun _ _ => rfl)) (da_cons (d_v 7) da_nil))) (d_one (d_not (d_call c_l_is_cut (hr.mono (by first | decide | omega)) rfl (da_cons (d_v 0) (da_cons (d_v 1) (da_cons (d_v 4) (da_cons (d_v 7) da_nil))))))))))
    (ds_cons (ds_set (i := 6) sc.nd rfl (Or.inl rfl) (d_call c_l_span_by (hr.mono (by first | decide | omega)) rfl (da_cons (d_v 2) (da_cons (d_v 5) da_nil))))
    (ds_one (ds_if (dt_cmp (o_ne (hu_eq hr)) (d_v 6) (d_tup da_nil) (nomark _))
    (ds_one (ds_expr (d_mt PySem.F.slot_list_append PySem.F.type_list_append m_append (d_v 3) (da_cons (d_op o_addA (d_sl (d_v 4) dp_none (dp_some d_int)) (d_tup (da_cons (d_v 6) da_nil))) da_nil))))
    ds_nil)))))
    (ds_one (ds_ret (d_ct c_tuple rfl B.b_tuple boot_tuple (da_cons (d_v 3) da_nil))))))) (fun ds M Q h => ?_)
  obtain ⟨a, b, c, rfl, sc, t, ts, rfl, rfl, rfl, hsc, ht, T, h⟩ := h
  have hemp : ∀ rs : List St, D.eqv (spD rs) (.tup []) = rs.isEmpty := fun rs => by
    cases rs <;> simp [D.eqv, D.py, D.pys, PyData.eqv, PyData.eqvAll]
  walk_at "st"
  intro q hq
  walk_at "st"
  intro _
  refine for_ind (fun items m1 M1 => ∃ (rest dn : List Rp) (x4 x5 x6 x7 : Option D), items = rest.map rpD ∧ dn ++ rest = t.1 ∧ M1 = mput M q (.lst ((cutR sc t.2.1 dn).map rpD)) ∧ m1 = [some (.tup (sc.map enE)), some (tdD t), some (.lst (ts.map D.int)), some (.ref q), x4, x5, x6, x7]) ?_ ?_ _ _ _ ⟨t.1, [], _, _, _, _, rfl, rfl, rfl, rfl⟩
  · rintro m1 M1 ⟨rest, dn, x4, x5, x6, x7, hi, hd, rfl, rfl⟩
    refine ⟨srcV_none, ?_⟩
    cases rest with
    | cons x r => cases hi
    | nil =>
      rw [List.append_nil] at hd
      subst hd
      walk_at "rd"
      exact ret_le (MLe.put (.refl M) hq) h
  · rintro z items m1 M1 Cn hC ⟨rest, dn, x4, x5, x6, x7, hi, hd, rfl, rfl⟩
    refine ⟨srcV_none, ?_⟩
    cases rest with
    | nil => cases hi
    | cons r rest =>
      rw [List.map_cons] at hi
      injection hi with e1 e2
      subst e1
      subst e2
      have hrm : r ∈ t.1 := by rw [← hd]; simp
      have hr := ht.rps r hrm
      have hd2 : (dn ++ [r]) ++ rest = t.1 := by rw [← hd]; simp
      have hts := T.len
      have hcl : (cutR sc t.2.1 dn).length ≤ 40 := by
        have h1 : (cutR sc t.2.1 dn).length ≤ dn.length := by
          unfold cutR
          exact Nat.le_trans (List.length_filter_le _ _) (by rw [List.length_map]; exact Nat.le_refl _)
        have h2 := congrArg List.length hd
        rw [List.length_append] at h2
        have := ht.rl
        omega
      walk_at "st"
      intro _
      refine lc_map ts D.int (fun m => D.bl (leftAt sc t.2.1 r m)) rfl (fun a e => by cases e) (fun m hm M5 l5 C1 h5 => ?_) fun p3 hp3 => ?_
      · walk_at "s1"
        refine ⟨_, .inl rfl, ?_⟩
        unfold leftAt at h5
        cases c1 : hasS r.2.2.2.2 m with
        | false =>
          rw [c1] at h5
          rw [if_neg (by decide)]
          exact h5
        | true =>
          rw [c1] at h5
          rw [if_pos rfl]
          exact ⟨sc, rfl, t, rfl, r, rfl, hsc, ht.vds, hr, h5⟩
      rw [mdel_mput hp3, show ts.map (fun m => D.bl (leftAt sc t.2.1 r m)) = (ts.map (leftAt sc t.2.1 r)).map D.bl by rw [List.map_map]; rfl]
      have hcs := left_cover ht hrm T
      obtain ⟨sp, hsp⟩ : ∃ sp, sp = spb [] ts (ts.map (leftAt sc t.2.1 r)) := ⟨_, rfl⟩
      rw [← hsp] at hcs
      walk_at "st"
      refine ⟨ts, rfl, ts.map (leftAt sc t.2.1 r), rfl, List.length_map .., hts, ?_⟩
      rw [← hsp]
      have hce := cutF_eq hcs
      have hsn : cutR sc t.2.1 (dn ++ [r]) = cutR sc t.2.1 dn ++ (if sp.isEmpty = true then [] else [setSp r sp]) := by
        unfold cutR
        rw [List.map_append, List.filter_append]
        congr 1
        rw [List.map_singleton, hce]
        cases e : sp.isEmpty <;> simp [List.filter_cons, setSp, e]
      refine ⟨sts_ok sp 62, ?_⟩
      rw [show D.eqv (.tup (sp.map stD)) (.tup []) = sp.isEmpty from hemp sp]
      cases e : sp.isEmpty with
      | true =>
        rw [if_neg (by decide)]
        rw [e, if_pos rfl, List.append_nil] at hsn
        exact fg_of (hC _ _ ⟨rest, dn ++ [r], _, _, _, _, rfl, hd2, by rw [hsn], rfl⟩)
      | false =>
        rw [if_pos rfl]
        rw [e, if_neg (by decide)] at hsn
        refine ⟨⟨_, rfl⟩, fun _ => ⟨by show 4 ≤ 16777215; omega, _, rfl, by rw [List.length_map]; omega, ?_⟩, fun z => absurd rfl z⟩
        exact fg_of (hC _ _ ⟨rest, dn ++ [r], _, _, _, _, rfl, hd2, by rw [hsn, List.map_append]; rfl, rfl⟩)
abbrev sp_l_rows_due : DSp := ar4 fun a b c d M Q => ∃ (sc : List Ent) (t : Td) (K : Pl) (m : Int), a = .tup (sc.map enE) ∧ b = tdD t ∧ c = plD K ∧ d = .int m ∧ (∀ e ∈ sc, PyData.strOk e.1 = true) ∧ TdOk sc t ∧ plOk K ∧ PyData.strOk K.1 = true ∧ ∀ rows rs : List (List D), (∀ x, x ∈ rows ↔ ∃ r ∈ t.1, leftAt sc t.2.1 r m = true ∧ r.2.2.1 = K.1 ∧ keyL sc K.1 r.2.2.2.1 = some K.2 ∧ r.2.2.2.1 = x) → SR rows rs → Q (.tup (rs.map D.tup)) M
theorem ok_l_rows_due (F : Def K mg "_law_rows_due" s_l_rows_due ["schema", "told", "pair", "moment"]) (B : Bi K mg) (I : Im mg) (c_l_sorted_rows : Cal P w K mg base 5 "_law_sorted_rows" ["rows"] sp_l_sorted_rows) (c_l_key_of : Cal P w K mg base 1 "_law_key_of" ["schema", "name", "row"] sp_l_key_of) (c_l_telling : Cal P w K mg base 3 "_law_telling" ["schema", "told", "moment"] sp_l_telling) : Cal P w K mg base 6 "_law_rows_due" ["schema", "told", "pair", "moment"] sp_l_rows_due := by
  have sc := sc_l_rows_due
  refine F.cal sc (fun ds M Q h => len4 h) (fun f cdv A outer s H E hr => (ds_cons (ds_set (i := 4) sc.nd rfl (Or.inl rfl) (d_lst da_nil))
    (ds_cons (ds_for PassesOwn.never rfl (di_seq (d_call c_l_telling (hr.mono (by first | decide | omega)) rfl (da_cons (d_v 0) (da_cons (d_v 1) (da_cons (d_v 3) da_nil))))) (dg_name (i := 5) sc.nd rfl (Or.inl rfl))
    (ds_one (ds_if (dt_cmp (o_eq (hu_eq hr)) (d_tup (da_cons (d_ix x_ix (d_v 5) d_int (fun _ _ => rfl)) (da_cons (d_call c_l_key_of (hr.mono (by first | decide | omega)) rfl (da_cons (d_v 0) (da_cons (d_ix x_ix (d_v 5) d_int (fun _ _ => rfl)) (da_cons (d_ix x_ix (d_v 5) d_int (fun _ _ => rfl)) da_nil)))) da_nil))) (d_v 2) (nomark _))
    (ds_one (ds_expr (d_mt PySem.F.slot_list_append PySem.F.type_list_append m_append (d_v 4) (da_cons (d_ix x_ix (d_v 5) d_int (fun _ _ => rfl)) da_nil))))
    ds_nil)))
    (ds_one (ds_fz 4 (ds_ret (d_ct c_tuple rfl B.b_tuple boot_tuple (da_cons (d_call c_l_sorted_rows (hr.mono (by first | decide | omega)) rfl (da_cons (d_v 4) da_nil)) da_nil)))))))) (fun ds M Q h => ?_)
  obtain ⟨a, b, c, d, rfl, sc, t, K, m, rfl, rfl, rfl, rfl, hsc, ht, hK, hn, h⟩ := h
  walk_at "st"
  intro q hq
  walk_at "st"
  refine ⟨sc, rfl, t, rfl, hsc, ht, fun _ => ?_⟩
  obtain ⟨lv, hlv⟩ : ∃ lv, lv = t.1.filter (fun r => hasS r.2.2.2.2 m && !cutB sc t.2.1 r m) := ⟨_, rfl⟩
  rw [← hlv]
  have hlm : ∀ r, r ∈ lv ↔ r ∈ t.1 ∧ leftAt sc t.2.1 r m = true := fun r => by
    rw [hlv, List.mem_filter]
    exact Iff.rfl
  have hll : lv.length ≤ 40 := by
    rw [hlv]
    exact Nat.le_trans (List.length_filter_le _ _) ht.rl
  clear hlv
  refine for_ind (fun items m1 M1 => ∃ (rest dn : List Rp) (rows : List (List D)) (x5 : Option D), items = rest.map rpD ∧ dn ++ rest = lv ∧ rows.length ≤ dn.length ∧ (∀ x, x ∈ rows ↔ ∃ r ∈ dn, r.2.2.1 = K.1 ∧ keyL sc K.1 r.2.2.2.1 = some K.2 ∧ r.2.2.2.1 = x) ∧ M1 = mput M q (.lst (rows.map D.tup)) ∧ m1 = [some (.tup (sc.map enE)), some (tdD t), some (plD K), some (.int m), some (.ref q), x5]) ?_ ?_ _ _ _ ⟨lv, [], [], _, rfl, rfl, Nat.le_refl _, by simp, rfl, rfl⟩
  · rintro m1 M1 ⟨rest, dn, rows, x5, hi, hd, hrl, hrows, rfl, rfl⟩
    refine ⟨srcV_none, ?_⟩
    cases rest with
    | cons x r => cases hi
    | nil =>
      rw [List.append_nil] at hd
      subst hd
      walk_at "rd"
      refine ⟨_, rfl, rows, rfl, by omega, fun x hx v hv => ?_, fun rs hsr => ?_⟩
      · obtain ⟨r, hr, _, _, rfl⟩ := (hrows x).mp hx
        exact (ht.rps r ((hlm r).mp hr).1).row v hv
      · rw [mdel_mput hq]
        refine ret_of (h rows rs (fun x => (hrows x).trans ?_) hsr)
        exact ⟨fun ⟨r, h1, h2⟩ => ⟨r, ((hlm r).mp h1).1, ((hlm r).mp h1).2, h2⟩, fun ⟨r, h1, h2, h3⟩ => ⟨r, (hlm r).mpr ⟨h1, h2⟩, h3⟩⟩
  · rintro z items m1 M1 Cn hC ⟨rest, dn, rows, x5, hi, hd, hrl, hrows, rfl, rfl⟩
    refine ⟨srcV_none, ?_⟩
    cases rest with
    | nil => cases hi
    | cons r rest =>
      rw [List.map_cons] at hi
      injection hi with e1 e2
      subst e1
      subst e2
      have hr := ht.rps r ((hlm r).mp (by rw [← hd]; simp)).1
      have hd2 : (dn ++ [r]) ++ rest = lv := by rw [← hd]; simp
      obtain ⟨k1, hk1⟩ := Option.isSome_iff_exists.mp hr.key
      have i1 := keyL_isV hr.row hk1
      have hdl : dn.length < 40 := by
        have h2 := congrArg List.length hd
        rw [List.length_append, List.length_cons] at h2
        omega
      walk_at "rd"
      refine ⟨sc, rfl, hr.nm, hsc, ?_⟩
      rw [hk1]
      simp only [Option.getD_some]
      have hpln : ∀ L : Pl, plOk L → pln (plD L) = true := fun L hL => by
        have := row_pl hL
        simp [plD, pln, plns, this]
      have heq : (D.tup [.str r.2.2.1, .tup k1]).eqv (plD K) = true ↔ (r.2.2.1, k1) = K := (eqv_pl (plD (r.2.2.1, k1)) (plD K) (hpln _ i1) (hpln _ hK)).trans ⟨fun e => by
        simp only [plD, D.tup.injEq, List.cons.injEq, D.str.injEq, and_true] at e
        exact Prod.ext e.1 e.2, fun e => by rw [e]⟩
      refine ⟨by rw [hr.nm, row_ok i1 62]; rfl, ?_, ?_⟩
      · have := row_ok hK 62
        simp [plD, dOk_tup, dOk_str, hn, this]
      by_cases c : (r.2.2.1, k1) = K
      · rw [if_pos (heq.mpr c)]
        have c1 : r.2.2.1 = K.1 := by rw [← c]
        have c2 : keyL sc K.1 r.2.2.2.1 = some K.2 := by rw [← c1, hk1, ← c]
        refine ⟨⟨_, rfl⟩, _, rfl, by rw [List.length_map]; omega, ?_⟩
        refine fg_of (hC _ _ ⟨rest, dn ++ [r], rows ++ [r.2.2.2.1], _, rfl, hd2, by rw [List.length_append, List.length_append]; simp; omega, fun x => ?_, by rw [List.map_append]; rfl, rfl⟩)
        rw [List.mem_append, hrows x, List.mem_singleton]
        constructor
        · rintro (⟨r', h1, h2⟩ | rfl)
          · exact ⟨r', by simp [h1], h2⟩
          · exact ⟨r, by simp, c1, c2, rfl⟩
        · rintro ⟨r', h1, h2⟩
          rcases List.mem_append.mp h1 with h1 | h1
          · exact .inl ⟨r', h1, h2⟩
          · rw [List.mem_singleton.mp h1] at h2
            exact .inr h2.2.2.symm
      · rw [if_neg (fun z => c (heq.mp z))]
        refine fg_of (hC _ _ ⟨rest, dn ++ [r], rows, _, rfl, hd2, by rw [List.length_append]; omega, fun x => ?_, rfl, rfl⟩)
        rw [hrows x]
        constructor
        · rintro ⟨r', h1, h2⟩
          exact ⟨r', by simp [h1], h2⟩
        · rintro ⟨r', h1, h2⟩
          rcases List.mem_append.mp h1 with h1 | h1
          · exact ⟨r', h1, h2⟩
          · rw [List.mem_singleton.mp h1] at h2
            refine absurd (Prod.ext h2.1 ?_) c
            have := h2.2.1
            rw [← h2.1, hk1] at this
            exact Option.some.inj this
/-- what the program and the law find at a place -/
theorem rows_same {sc : List Ent} {t : Td} (hex : ∀ r ∈ t.1, ∃ rs, CutS sc t.2.1 r rs) (n : Str) (ks : List D) (m : Int) (x : List D) : (∃ r ∈ cutR sc t.2.1 t.1, r.2.2.1 = n ∧ keyL sc n r.2.2.2.1 = some ks ∧ hasS r.2.2.2.2 m = true ∧ r.2.2.2.1 = x) ↔ ∃ r ∈ t.1, leftAt sc t.2.1 r m = true ∧ r.2.2.1 = n ∧ keyL sc n r.2.2.2.1 = some ks ∧ r.2.2.2.1 = x := by
  have hl : ∀ r ∈ t.1, (hasS (cutF sc t.2.1 r) m = true ↔ leftAt sc t.2.1 r m = true) := fun r hr => by
    obtain ⟨rs, hrs⟩ := hex r hr
    rw [cutF_eq hrs, hrs.has]
    unfold leftAt cutB
    rw [Bool.and_eq_true, Bool.not_eq_true', decide_eq_false_iff_not]
  constructor
  · rintro ⟨r, hr, h1, h2, h3, h4⟩
    obtain ⟨r0, hr0, rfl⟩ := List.mem_map.mp (List.mem_filter.mp hr).1
    exact ⟨r0, hr0, (hl r0 hr0).mp h3, h1, h2, h4⟩
  · rintro ⟨r, hr, h3, h1, h2, h4⟩
    have h3' := (hl r hr).mpr h3
    refine ⟨setSp r (cutF sc t.2.1 r), List.mem_filter.mpr ⟨List.mem_map_of_mem hr, ?_⟩, h1, h2, h3', h4⟩
    show (!(cutF sc t.2.1 r).isEmpty) = true
    cases e : cutF sc t.2.1 r with
    | nil =>
      rw [e] at h3'
      cases h3'
    | cons s ss => rfl
theorem cutR_ok {sc : List Ent} {t : Td} (ht : TdOk sc t) : ((cutR sc t.2.1 t.1).map rpD).all (dOk 11) = true := by
  rw [List.all_map]
  refine List.all_eq_true.mpr fun r hr => ?_
  obtain ⟨r0, hr0, rfl⟩ := List.mem_map.mp (List.mem_filter.mp hr).1
  have k := ht.rps r0 hr0
  have h1 := row_ok k.row 9
  have h2 := sts_ok (cutF sc t.2.1 r0) 8
  show dOk 11 (.tup [.int _, .str _, .str _, .tup _, spD _]) = true
  simp [setSp, dOk_tup, dOk_str, k.src, k.nm, h1, h2]
abbrev sp_l_rows_are_right (w : World) (tb : Addr) : DSp := ar3 fun a b c M Q => ∃ (sc : List Ent) (t : Td) (ms : List Int), a = .tup (sc.map enE) ∧ b = tdD t ∧ c = .lst (ms.map D.int) ∧ (∀ e ∈ sc, enOk e) ∧ TdOk sc t ∧ M tb = some (.tab (lamQ "span_of")) ∧ sc.length ≤ 3 ∧ Q (.bl true) M
theorem ok_l_rows_are_right (F : Def K mg "_law_rows_are_right" s_l_rows_are_right ["schema", "told", "moments"]) (B : Bi K mg) (I : Im mg) (c_told_rows : Cal P w K mg base 7 "told_rows" ["schema", "told", "name", "key", "moment"] (sp_told_rows w tb)) (c_l_same : Cal P w K mg base 13 "_law_same" ["actual", "due"] sp_l_same) (c_l_keys : Cal P w K mg base 6 "_law_keys" ["schema", "told"] sp_l_keys) (c_l_rows_due : Cal P w K mg base 6 "_law_rows_due" ["schema", "told", "pair", "moment"] sp_l_rows_due) : Cal P w K mg base 14 "_law_rows_are_right" ["schema", "told", "moments"] (sp_l_rows_are_right w tb) := by
  have sc := sc_l_rows_are_right
  refine F.cal sc (fun ds M Q h => len3 h) (fun f cdv A outer s H E hr => (ds_cons (ds_set (i := 3) sc.nd rfl (Or.inl rfl) (d_call c_l_keys (hr.mono (by first | decide | omega)) rfl (da_cons (d_v 0) (da_cons (d_v 1) da_nil))))
    (ds_cons (ds_for PassesOwn.never rfl (di_seq (d_v 0)) (dg_name (i := 4) sc.nd rfl (Or.inl rfl))
    (ds_cons (ds_set (i := 5) sc.nd rfl (Or.inl rfl) (d_ct c_tuple rfl B.b_tuple boot_tuple (da_cons (d_fz (d_rep (d_lst (da_cons d_str da_nil)) (d_ix x_ix (d_v 4) d_int (fun _ _ => rfl)))) da_nil)))
    (ds_one (ds_if (dt_cmp (o_notin (hu_in hr)) (d_tup (da_cons (d_ix x_ix (d_v 4) d_int (fun _ _ => rfl)) (da_cons (d_v 5) da_nil))) (d_v 3) rfl)
    (ds_one (ds_expr (d_mt PySem.F.slot_list_append PySem.F.type_list_append m_append (d_v 3) (da_cons (d_tup (da_cons (d_ix x_ix (d_v 4) d_int (fun _ _ => rfl)) (da_cons (d_v 5) da_nil))) da_nil))))
    ds_nil))))
    (ds_cons (ds_for PassesOwn.never rfl (di_seq (d_v 3)) (dg_name (i := 6) sc.nd rfl (Or.inl rfl))
    (ds_one (ds_for PassesOwn.never rfl (di_seq (d_v 2)) (dg_name (i := 7) sc.nd rfl (Or.inl rfl))
    (ds_cons (ds_set (i := 8) sc.nd rfl (Or.inl rfl) (d_call c_l_rows_due (hr.mono (by first | decide | omega)) rfl (da_cons (d_v 0) (da_cons (d_v 1) (da_cons (d_v 6) (da_cons (d_v 7) da_nil))))))
    (ds_one (ds_if (dt_not (dt_val (d_call c_l_same (hr.mono (by first | decide | omega)) rfl (da_cons (d_call c_told_rows (hr.mono (by first | decide | omega)) rfl (da_cons (d_v 0) (da_cons (d_v 1) (da_cons (d_ix x_ix (d_v 6) d_int (fun _ _ => rfl)) (da_cons (d_ix x_ix (d_v 6) d_int (fun _ _ => rfl)) (da_cons (d_v 7) da_nil)))))) (da_cons (d_v 8) da_nil)))))
    (ds_one (ds_ret d_bl))
    ds_nil))))))
    (ds_one (ds_ret d_bl)))))) (fun ds M Q h => ?_)
  obtain ⟨a, b, c, rfl, sc, t, ms, rfl, rfl, rfl, hsc, ht, htb, hsl, h⟩ := h
  have hso : ∀ e ∈ sc, PyData.strOk e.1 = true := fun e he => (hsc e he).1
  walk_at "st"
  refine ⟨sc, rfl, t, rfl, hso, ht, fun ks0 q hq hks0 hkl0 => ?_⟩
  walk_at "st"
  intro _
  have htq : tb ≠ q := ne_of_fresh htb hq
  refine for_ind (fun items m1 M1 => ∃ (N : DM) (rest : List Ent) (ks : List Pl) (x4 x5 : Option D), MLe M N ∧ N q = none ∧ items = rest.map enE ∧ (∀ e ∈ rest, e ∈ sc) ∧ ks.length + rest.length ≤ 50 ∧ (∀ K ∈ ks, plOk K ∧ PyData.strOk K.1 = true ∧ (sc.find? fun e => decide (e.1 = K.1)).isSome = true) ∧ M1 = mput N q (.lst (ks.map plD)) ∧ m1 = [some (.tup (sc.map enE)), some (tdD t), some (.lst (ms.map D.int)), some (.ref q), x4, x5, none, none, none]) ?_ ?_ _ _ _ ⟨M, sc, ks0, _, _, .refl M, hq, rfl, fun _ h => h, by omega, hks0, rfl, rfl⟩
  · rintro m1 M1 ⟨N, rest, ks, x4, x5, hle, hNq, hi, hrest, hkl, hks, rfl, rfl⟩
    refine ⟨srcV_none, ?_⟩
    clear hi hrest
    walk_at "st"
    walk_at "st"
    intro _
    have hMl : MLe M (mput N q (.lst (ks.map plD))) := hle.put hq
    have hsv : SrcV (ks.map plD, some q) (mput N q (.lst (ks.map plD))) := fun a e => by cases e; exact mput_same
    refine for_ind (fun items m1 M1 => ∃ (rest : List Pl) (x6 x7 x8 : Option D), items = rest.map plD ∧ (∀ K ∈ rest, K ∈ ks) ∧ M1 = mput N q (.lst (ks.map plD)) ∧ m1 = [some (.tup (sc.map enE)), some (tdD t), some (.lst (ms.map D.int)), some (.ref q), x4, x5, x6, x7, x8]) ?_ ?_ _ _ _ ⟨ks, _, _, _, rfl, fun _ h => h, rfl, rfl⟩
    · rintro m1 M1 ⟨rest, x6, x7, x8, hi, hrest, rfl, rfl⟩
      refine ⟨hsv, ?_⟩
      walk_at "rd"
      exact ret_le hMl h
    · rintro z items m1 M1 Cn hC ⟨rest, x6, x7, x8, hi, hrest, rfl, rfl⟩
      refine ⟨hsv, ?_⟩
      cases rest with
      | nil => cases hi
      | cons K rest =>
        rw [List.map_cons] at hi
        injection hi with e1 e2
        subst e1
        subst e2
        obtain ⟨K1, K2, K3⟩ := hks K (hrest K (by simp))
        have hr2 : ∀ L ∈ rest, L ∈ ks := fun L hL => hrest L (by simp [hL])
        walk_at "rd"
        intro _
        refine for_ind (fun its m2 M2 => ∃ (rest2 : List Int) (x7 x8 : Option D), its = rest2.map D.int ∧ M2 = mput N q (.lst (ks.map plD)) ∧ m2 = [some (.tup (sc.map enE)), some (tdD t), some (.lst (ms.map D.int)), some (.ref q), x4, x5, some (plD K), x7, x8]) ?_ ?_ _ _ _ ⟨ms, _, _, rfl, rfl, rfl⟩
        · rintro m2 M2 ⟨rest2, x7, x8, hi2, rfl, rfl⟩
          exact ⟨srcV_none, fg_of (hC _ _ ⟨rest, _, _, _, rfl, hr2, rfl, rfl⟩)⟩
        · rintro z2 its m2 M2 Cn2 hC2 ⟨rest2, x7, x8, hi2, rfl, rfl⟩
          refine ⟨srcV_none, ?_⟩
          cases rest2 with
          | nil => cases hi2
          | cons m rest2 =>
            rw [List.map_cons] at hi2
            injection hi2 with e1 e2
            subst e1
            subst e2
            walk_at "st"
            have htb2 : mput N q (.lst (ks.map plD)) tb = some (.tab (lamQ "span_of")) := hMl _ _ htb
            refine ⟨sc, rfl, t, rfl, K, rfl, hso, ht, K1, K2, fun rowsD rsD hrD hsD => ⟨_, rfl, _, atI_0 _ _, _, rfl, _, atI_1 _ _ _, sc, rfl, t, rfl, K.1, rfl, K.2, rfl, hso, ht, htb2, K2, K1, K3, fun hex rows rs hrows hsr => ?_⟩⟩
            have hDv : ∀ r ∈ rowsD, ∀ v ∈ r, isV v := fun r hr => by
              obtain ⟨r0, hr0, _, _, _, rfl⟩ := (hrD r).mp hr
              exact (ht.rps r0 hr0).row
            have e : rsD = rs := SR.uniq hDv (fun x => by rw [hrows x, hrD x]; exact rows_same hex K.1 K.2 m x) hsD hsr
            subst e
            refine ⟨rfl, ?_, ?_⟩
            · rw [List.all_map]
              refine List.all_eq_true.mpr fun r hr => ?_
              show dOk 11 (.tup r) = true
              rw [dOk_tup]
              exact row_ok (hDv r ((hsD.mem r).mp hr)) 10
            · exact fg_of (hC2 _ _ ⟨rest2, _, _, rfl, rfl, rfl⟩)
  · rintro z items m1 M1 Cn hC ⟨N, rest, ks, x4, x5, hle, hNq, hi, hrest, hkl, hks, rfl, rfl⟩
    refine ⟨srcV_none, ?_⟩
    cases rest with
    | nil => cases hi
    | cons e rest =>
      rw [List.map_cons] at hi
      injection hi with e1 e2
      subst e1
      subst e2
      have he := hrest e (by simp)
      have hes := hsc e he
      rw [List.length_cons] at hkl
      have hr2 : ∀ u ∈ rest, u ∈ sc := fun u hu => hrest u (by simp [hu])
      walk_at "rd"
      intro p1 hp1
      have hp1q : p1 ≠ q := fun e => by rw [e, mput_same] at hp1; cases hp1
      have hpN : N p1 = none := by rw [mput_ne hp1q] at hp1; exact hp1
      have hnob : PyData.strOk (Str.ofString "nobody") = true := by decide +kernel
      rw [show mput (mput N q (.lst (ks.map plD))) p1 (.lst [.str (Str.ofString "nobody")]) = mput (mput N p1 (.lst [.str (Str.ofString "nobody")])) q (.lst (ks.map plD)) from mput_comm hp1q.symm]
      obtain ⟨N2, hN2⟩ : ∃ N2, N2 = mput N p1 (.lst [.str (Str.ofString "nobody")]) := ⟨_, rfl⟩
      have hle2 : MLe M N2 := by rw [hN2]; exact hle.put (hle.none hpN)
      have hq2 : N2 q = none := by rw [hN2, mput_ne hp1q.symm]; exact hNq
      rw [← hN2]
      clear hN2
      obtain ⟨rp, hrp, hrv⟩ : ∃ rp : List D, (List.replicate (((e.2.1 : Nat) : Int)).toNat [D.str (Str.ofString "nobody")]).flatten = rp ∧ ∀ v ∈ rp, isV v := ⟨_, rfl, fun v hv => by
        obtain ⟨l, hl, hv⟩ := List.mem_flatten.mp hv
        rw [(List.mem_replicate.mp hl).2] at hv
        rw [List.mem_singleton.mp hv]
        exact .inr ⟨_, rfl, hnob⟩⟩
      refine ⟨_, rfl, by omega, by have := hes.2; omega, by have := hes.2; show 1 * _ ≤ _; omega, fun q1 hq1 => ⟨_, rfl, ?_⟩⟩
      rw [hrp, mdel_mput hq1, mput_same]
      refine ⟨_, rfl, by rw [hes.1, row_ok hrv 61]; rfl, List.all_eq_true.mpr fun z hz => ?_, ?_⟩
      · obtain ⟨K, hK, rfl⟩ := List.mem_map.mp hz
        have := row_ok (hks K hK).1 61
        simp [plD, dOk_tup, dOk_str, (hks K hK).2.1, this]
      split
      · refine ⟨⟨_, rfl⟩, _, rfl, by rw [List.length_map]; omega, ?_⟩
        rw [mput_mput]
        refine fg_of (hC _ _ ⟨N2, rest, ks ++ [(e.1, rp)], _, _, hle2, hq2, rfl, hr2, by rw [List.length_append, List.length_singleton]; omega, fun K hK => ?_, by rw [List.map_append]; rfl, rfl⟩)
        rcases List.mem_append.mp hK with hK | hK
        · exact hks K hK
        · rw [List.mem_singleton.mp hK]
          exact ⟨hrv, hes.1, List.find?_isSome.mpr ⟨e, he, decide_eq_true rfl⟩⟩
      · exact fg_of (hC _ _ ⟨N2, rest, ks, _, _, hle2, hq2, rfl, hr2, by omega, hks, rfl, rfl⟩)
theorem ok_law {f0 : Addr} {fd0 : FuncData} (F : Fun K "law" "law" s_law f0 fd0) (B : Bi K mg) (I : Im mg) (c_cut_reports : Cal P w K mg base 6 "cut_reports" ["schema", "told"] (sp_cut_reports w tb)) (c_told_rows : Cal P w K mg base 7 "told_rows" ["schema", "told", "name", "key", "moment"] (sp_told_rows w tb)) (c_l_draws : Cal P w K mg base 1 "_law_draws" ["script", "many"] sp_l_draws) (c_l_same : Cal P w K mg base 13 "_law_same" ["actual", "due"] sp_l_same) (c_l_turns : Cal P w K mg base 1 "_law_turns" ["told"] sp_l_turns) (c_l_world : Cal P w K mg base 8 "_law_world" ["draws", "many"] sp_l_world) (c_l_three_tellings : Cal P w K mg base 5 "_law_three_tellings" ["draws", "world"] sp_l_three_tellings) (c_l_cut_due : Cal P w K mg base 3 "_law_cut_due" ["schema", "told", "turns"] sp_l_cut_due) (c_l_moments : Cal P w K mg base 3 "_law_moments" ["draws", "turns", "begin"] sp_l_moments) (c_l_rows_are_right : Cal P w K mg base 14 "_law_rows_are_right" ["schema", "told", "moments"] (sp_l_rows_are_right w tb)) : FnOk P w K mg base CX0 15 f0 fd0 ["script"] (lawSp K [(tb, lamQ "span_of")]) := by
  have sc := sc_law
  refine fn_okT (T := [(tb, lamQ "span_of")]) (by simp) F sc (fun f cdv A outer s H E hr => (ds_cons (ds_set (i := 1) sc.nd rfl (Or.inl rfl) (d_call c_l_draws (hr.mono (by first | decide | omega)) rfl (da_cons (d_v 0) (da_cons d_int da_nil))))
    (ds_cons (ds_set (i := 2) sc.nd rfl (Or.inl rfl) (d_call c_l_world (hr.mono (by first | decide | omega)) rfl (da_cons (d_v 1) (da_cons d_int da_nil))))
    (ds_cons (ds_set (i := 3) sc.nd rfl (Or.inl rfl) (d_ix x_ix (d_v 2) d_int (fun _ _ => rfl)))
    (ds_cons (ds_set (i := 4) sc.nd rfl (Or.inl rfl) (d_call c_l_three_tellings (hr.mono (by first | decide | omega)) rfl (da_cons (d_v 1) (da_cons (d_v 2) da_nil))))
    (ds_cons (ds_for PassesOwn.never rfl (di_seq (d_v 4)) (dg_name (i := 5) sc.nd rfl (Or.inl rfl))
    (ds_cons (ds_set (i := 6) sc.nd rfl (Or.inl rfl) (d_call c_l_turns (hr.mono (by first | decide | omega)) rfl (da_cons (d_v 5) da_nil)))
    (ds_cons (ds_if (dt_not (dt_val (d_call c_l_same (hr.mono (by first | decide | omega)) rfl (da_cons (d_call c_cut_reports (hr.mono (by first | decide | omega)) rfl (da_cons (d_v 3) (da_cons (d_v 5) da_nil))) (da_cons (d_call c_l_cut_due (hr.mono (by first | decide | omega)) rfl (da_cons (d_v 3) (da_cons (d_v 5) (da_cons (d_v 6) da_nil)))) da_nil)))))
    (ds_one (ds_ret d_bl))
    ds_nil)
    (ds_one (ds_if (dt_not (dt_val (d_call c_l_rows_are_right (hr.mono (by first | decide | omega)) rfl (da_cons (d_v 3) (da_cons (d_v 5) (da_cons (d_call c_l_moments (hr.mono (by first | decide | omega)) rfl (da_cons (d_v 1) (da_cons (d_v 6) (da_cons (d_ix x_ix (d_ix x_ix (d_ix x_ix (d_ix x_ix (d_ix x_ix (d_ix x_ix (d_v 4) d_int (fun _ _ => rfl)) d_int (fun _ _ => rfl)) (d_neg d_int) (fun _ _ => rfl)) d_int (fun _ _ => rfl)) d_int (fun _ _ => rfl)) d_int (fun _ _ => rfl)) da_nil)))) da_nil))))))
    (ds_one (ds_ret d_bl))
    ds_nil)))))
    (ds_cons (ds_set (i := 7) sc.nd rfl (Or.inl rfl) (d_tup (da_cons (d_tup da_nil) (da_cons (d_tup da_nil) (da_cons (d_ix x_ix (d_ix x_ix (d_v 4) d_int (fun _ _ => rfl)) d_int (fun _ _ => rfl)) da_nil)))))
    (ds_cons (ds_set (i := 8) sc.nd rfl (Or.inl rfl) (d_ct c_tuple rfl B.b_tuple boot_tuple (da_cons (d_fz (d_rep (d_lst (da_cons (d_ix x_ix (d_ix x_ix (d_v 2) d_int (fun _ _ => rfl)) d_int (fun _ _ => rfl)) da_nil)) (d_ix x_ix (d_ix x_ix (d_v 3) d_int (fun _ _ => rfl)) d_int (fun _ _ => rfl)))) da_nil)))
    (ds_cons (ds_if (dt_not (dt_val (d_call c_l_same (hr.mono (by first | decide | omega)) rfl (da_cons (d_call c_cut_reports (hr.mono (by first | decide | omega)) rfl (da_cons (d_v 3) (da_cons (d_v 7) da_nil))) (da_cons (d_tup da_nil) da_nil)))))
    (ds_one (ds_ret d_bl))
    ds_nil)
    (ds_cons (ds_if (dt_not (dt_val (d_call c_l_same (hr.mono (by first | decide | omega)) rfl (da_cons (d_call c_told_rows (hr.mono (by first | decide | omega)) rfl (da_cons (d_v 3) (da_cons (d_v 7) (da_cons (d_ix x_ix (d_ix x_ix (d_v 3) d_int (fun _ _ => rfl)) d_int (fun _ _ => rfl)) (da_cons (d_v 8) (da_cons d_int da_nil)))))) (da_cons (d_tup da_nil) da_nil)))))
    (ds_one (ds_ret d_bl))
    ds_nil)
    (ds_cons (ds_set (i := 6) sc.nd rfl (Or.inl rfl) (d_call c_l_turns (hr.mono (by first | decide | omega)) rfl (da_cons (d_ix x_ix (d_v 4) d_int (fun _ _ => rfl)) da_nil)))
    (ds_one (ds_ret (d_call c_l_same (hr.mono (by first | decide | omega)) rfl (da_cons (d_call c_cut_reports (hr.mono (by first | decide | omega)) rfl (da_cons (d_v 3) (da_cons (d_ix x_ix (d_v 4) d_int (fun _ _ => rfl)) da_nil))) (da_cons (d_call c_l_cut_due (hr.mono (by first | decide | omega)) rfl (da_cons (d_v 3) (da_cons (d_ix x_ix (d_v 4) d_int (fun _ _ => rfl)) (da_cons (d_v 6) da_nil)))) da_nil)))))))))))))))) (fun ds M Q h => ?_)
  obtain ⟨a, rfl, hT, ns, hns, rfl, h⟩ := h
  have hMt := hT (tb, lamQ "span_of") (by simp)
  obtain ⟨d0, hd0⟩ : ∃ d0, d0 = D.lst (ns.map D.int) := ⟨_, rfl⟩
  walk_at "st"
  refine ⟨⟨ns, rfl⟩, fun p o hp ho => ?_⟩
  rw [← hd0]
  have htp : tb ≠ p := ne_of_fresh hMt hp
  have hTb : ∀ {o}, mput M p o tb = some (.tab (lamQ "span_of")) := fun {o} => by rw [mput_ne htp]; exact hMt
  walk_at "st"
  refine ⟨4, rfl, dr_put ho, by omega, by omega, fun o1 sc x y z ws g t ho1 W => ?_⟩
  have hso : ∀ e ∈ sc, PyData.strOk e.1 = true := fun e he => (W.ent e he).1
  walk_at "st"
  walk_at "st"
  refine ⟨sc, x, y, z, ws, g, t, rfl, dr_put ho1, W, fun o2 rs r1 r2 s v ho2 hr hrl hv es2 => ?_⟩
  walk_at "st"
  obtain ⟨TL, hTL⟩ : ∃ TL : List Td, TL = [(rs ++ [r1, r2], t.2), (rs ++ [r1, r2], [], t.2.2), (rs ++ [r1, r2], [v], t.2.2)] := ⟨_, rfl⟩
  have hL40 : (rs ++ [r1, r2]).length ≤ 40 := by rw [List.length_append]; simp; omega
  have hTLo : ∀ t' ∈ TL, TdOk sc t' := fun t' ht' => by
    rw [hTL] at ht'
    simp only [List.mem_cons, List.not_mem_nil, or_false] at ht'
    rcases ht' with rfl | rfl | rfl
    · exact ⟨hr, W.td.vds, hL40, W.td.vl⟩
    · exact ⟨hr, nofun, hL40, by simp⟩
    · exact ⟨hr, fun u hu => by rw [List.mem_singleton.mp hu]; exact hv, hL40, by simp⟩
  have hT0 : atI (TL.map tdD) 0 = some (tdD (rs ++ [r1, r2], t.2)) := by rw [hTL]; exact atI_0 _ _
  have hlast : ((rs ++ [r1, r2]).map rpD).getLast? = some (rpD r2) := by simp
  rw [show [tdD (rs ++ [r1, r2], t.2), tdD (rs ++ [r1, r2], [], t.2.2), tdD (rs ++ [r1, r2], [v], t.2.2)] = TL.map tdD by rw [hTL]; rfl]
  have hT1 : TdOk sc (rs ++ [r1, r2], t.2) := hTLo _ (by rw [hTL]; simp)
  clear hTL
  refine for_ind (fun items m1 M1 => ∃ (o : DO) (rest : List Td) (x5 x6 : Option D), items = rest.map tdD ∧ (∀ t' ∈ rest, TdOk sc t') ∧ DrO o ∧ M1 = mput M p o ∧ m1 = [some d0, some (.ref p), some (woD sc x y z ws g t), some (.tup (sc.map enE)), some (.lst (TL.map tdD)), x5, x6, none, none]) ?_ ?_ _ _ _ ⟨o2, TL, _, _, rfl, hTLo, ho2, rfl, rfl⟩
  · rintro m1 M1 ⟨o, rest, x5, x6, hi, _, ho, rfl, rfl⟩
    refine ⟨srcV_none, ?_⟩
    clear hi
    walk_at "st"
    walk_at "st"
    refine ⟨_, hT0, [.tup ((rs ++ [r1, r2]).map rpD), .tup (t.2.1.map vdD), t.2.2], rfl, t.2.2, rfl, ?_⟩
    obtain ⟨E0, hE0⟩ : ∃ E0 : Td, E0 = ([], [], t.2.2) := ⟨_, rfl⟩
    have hE1 : TdOk sc E0 := by rw [hE0]; exact ⟨nofun, nofun, by simp, by simp⟩
    have hE2 : E0.1 = [] := by rw [hE0]
    rw [show D.tup [.tup [], .tup [], t.2.2] = tdD E0 by rw [hE0]; rfl]
    clear hE0
    obtain ⟨e0, scr, hscr⟩ : ∃ e0 scr, sc = e0 :: scr := by
      obtain ⟨e, he, _⟩ := W.ri
      cases sc with
      | nil => cases he
      | cons e0 scr => exact ⟨e0, scr, rfl⟩
    have he0 : e0 ∈ sc := by rw [hscr]; simp
    have hes0 := W.ent e0 he0
    have hS0 : atI (sc.map enE) 0 = some (enE e0) := by rw [hscr]; exact atI_0 _ _
    walk_at "st"
    intro p1 hp1
    have hle1 : MLe (mput M p o) (mput (mput M p o) p1 (.lst [x])) := .put (.refl _) hp1
    have htb1 : mput (mput M p o) p1 (.lst [x]) tb = some (.tab (lamQ "span_of")) := hle1 _ _ hTb
    refine ⟨_, hS0, [.str e0.1, .int e0.2.1, .int e0.2.2], rfl, .int e0.2.1, rfl, [x], e0.2.1, rfl, rfl, by omega, by have := hes0.2; omega, by have := hes0.2; show 1 * _ ≤ _; omega, fun q1 hq1 => ⟨_, rfl, ?_⟩⟩
    obtain ⟨rp, hrp, hrv⟩ : ∃ rp : List D, (List.replicate (((e0.2.1 : Nat) : Int)).toNat [x]).flatten = rp ∧ ∀ v ∈ rp, isV v := ⟨_, rfl, fun v hv => by
      obtain ⟨l, hl, hv⟩ := List.mem_flatten.mp hv
      rw [(List.mem_replicate.mp hl).2] at hv
      rw [List.mem_singleton.mp hv]
      exact W.vx⟩
    rw [hrp, mdel_mput hq1]
    generalize mput (mput M p o) p1 (.lst [x]) = M3 at hle1 htb1
    have hc0 : ∀ vs, cutR sc vs E0.1 = [] := fun vs => by rw [hE2]; rfl
    walk_at "st"
    refine ⟨sc, rfl, E0, rfl, hso, hE1, htb1, fun _ => ⟨by rw [hc0]; rfl, ?_⟩⟩
    walk_at "st"
    refine ⟨_, hS0, [.str e0.1, .int e0.2.1, .int e0.2.2], rfl, .str e0.1, rfl, sc, rfl, E0, rfl, e0.1, rfl, hso, hE1, htb1, hes0.1, hrv, List.find?_isSome.mpr ⟨e0, he0, decide_eq_true rfl⟩, fun _ rows rs0 hrows hsr => ?_⟩
    have hr0 : rs0 = [] := by
      cases rs0 with
      | nil => rfl
      | cons u us =>
        obtain ⟨r, hr, _⟩ := (hrows u).mp ((hsr.mem u).mp (by simp))
        rw [hc0] at hr
        cases hr
    subst hr0
    refine ⟨rfl, ?_⟩
    walk_at "st"
    exact ⟨_, hT0, sc, _, rfl, hT1, fun ts T => ⟨_, hT0, sc, rfl, _, rfl, hso, hT1, htb1, fun _ => ⟨_, hT0, sc, rfl, _, rfl, ts, rfl, hso, hT1, T, rfl, cutR_ok hT1, ret_of (h _)⟩⟩⟩
  · rintro zz items m1 M1 Cn hC ⟨o, rest, x5, x6, hi, hrest, ho, rfl, rfl⟩
    refine ⟨srcV_none, ?_⟩
    cases rest with
    | nil => cases hi
    | cons t' rest =>
      rw [List.map_cons] at hi
      injection hi with e1 e2
      subst e1
      subst e2
      have ht' := hrest t' (by simp)
      have hr2 : ∀ u ∈ rest, TdOk sc u := fun u hu => hrest u (by simp [hu])
      walk_at "st"
      refine ⟨sc, t', rfl, ht', fun ts T => ?_⟩
      walk_at "st"
      have hsp : atI (r2.2.2.2.2.map stD) 0 = some (stD s) := by
        rw [es2]
        exact atI_0 _ _
      refine ⟨sc, rfl, t', rfl, hso, ht', hTb, fun hex => ⟨sc, rfl, t', rfl, ts, rfl, hso, ht', T, rfl, cutR_ok ht', _, hT0, _, rfl, _, atI_0 _ _, _, rfl, _, hlast, _, rfl, _, rfl, _, rfl, _, hsp, [.int s.1, oD s.2], rfl, .int s.1, atI_0 _ _, ts, rfl, ⟨_, rfl⟩, dr_put ho, List.ne_nil_of_mem ((T.mem 0).mpr (.inl rfl)), fun o5 ms ho5 _ => ⟨sc, rfl, t', rfl, ⟨_, rfl⟩, W.ent, ht', hTb, W.sl, fg_of (hC _ _ ⟨o5, rest, _, _, rfl, hr2, ho5, rfl, rfl⟩)⟩⟩⟩
end
theorem dm_value_key {K : PySem.W.Frag} {h : Heap} {mg : Str → Option Value} (X : K.In h) (G : h.Ns mainGlobals mg) {f : Addr} {oc : Value} {od an : Option Addr} {sl : Array (Option Value)} {kV dc pm cd ct : Value} (a : PySem.W.nsIn K mainGlobals "value_key" = some (some (.ref f))) (l : K.lookup f = some ⟨oc, od, .func (PySem.W.fnOf "value_key" "value_key" (defArgs s_value_key) (defBody s_value_key) (defScope s_value_key) .none kV dc pm an cd ct), sl⟩) (c : PySem.W.codeIn K cd "value_key" = true) (k : PySem.W.keepIn K (.ref f) = true) : Def K mg "value_key" s_value_key ["value"] := ⟨_, _, fun_mk (st := s_value_key) l c k, PySem.W.mg_of X G a, (fun_mk (st := s_value_key) l c k).binds (ps := ["value"]) fun _ _ _ _ _ _ us hl => match us, hl with | [_], _ => rfl⟩
theorem dm_row_key {K : PySem.W.Frag} {h : Heap} {mg : Str → Option Value} (X : K.In h) (G : h.Ns mainGlobals mg) {f : Addr} {oc : Value} {od an : Option Addr} {sl : Array (Option Value)} {kV dc pm cd ct : Value} (a : PySem.W.nsIn K mainGlobals "row_key" = some (some (.ref f))) (l : K.lookup f = some ⟨oc, od, .func (PySem.W.fnOf "row_key" "row_key" (defArgs s_row_key) (defBody s_row_key) (defScope s_row_key) .none kV dc pm an cd ct), sl⟩) (c : PySem.W.codeIn K cd "row_key" = true) (k : PySem.W.keepIn K (.ref f) = true) : Def K mg "row_key" s_row_key ["row"] := ⟨_, _, fun_mk (st := s_row_key) l c k, PySem.W.mg_of X G a, (fun_mk (st := s_row_key) l c k).binds (ps := ["row"]) fun _ _ _ _ _ _ us hl => match us, hl with | [_], _ => rfl⟩
theorem dm_sorted_rows {K : PySem.W.Frag} {h : Heap} {mg : Str → Option Value} (X : K.In h) (G : h.Ns mainGlobals mg) {f : Addr} {oc : Value} {od an : Option Addr} {sl : Array (Option Value)} {kV dc pm cd ct : Value} (a : PySem.W.nsIn K mainGlobals "sorted_rows" = some (some (.ref f))) (l : K.lookup f = some ⟨oc, od, .func (PySem.W.fnOf "sorted_rows" "sorted_rows" (defArgs s_sorted_rows) (defBody s_sorted_rows) (defScope s_sorted_rows) .none kV dc pm an cd ct), sl⟩) (c : PySem.W.codeIn K cd "sorted_rows" = true) (k : PySem.W.keepIn K (.ref f) = true) : Def K mg "sorted_rows" s_sorted_rows ["rows"] := ⟨_, _, fun_mk (st := s_sorted_rows) l c k, PySem.W.mg_of X G a, (fun_mk (st := s_sorted_rows) l c k).binds (ps := ["rows"]) fun _ _ _ _ _ _ us hl => match us, hl with | [_], _ => rfl⟩
theorem dm_table_of {K : PySem.W.Frag} {h : Heap} {mg : Str → Option Value} (X : K.In h) (G : h.Ns mainGlobals mg) {f : Addr} {oc : Value} {od an : Option Addr} {sl : Array (Option Value)} {kV dc pm cd ct : Value} (a : PySem.W.nsIn K mainGlobals "table_of" = some (some (.ref f))) (l : K.lookup f = some ⟨oc, od, .func (PySem.W.fnOf "table_of" "table_of" (defArgs s_table_of) (defBody s_table_of) (defScope s_table_of) .none kV dc pm an cd ct), sl⟩) (c : PySem.W.codeIn K cd "table_of" = true) (k : PySem.W.keepIn K (.ref f) = true) : Def K mg "table_of" s_table_of ["schema", "name"] := ⟨_, _, fun_mk (st := s_table_of) l c k, PySem.W.mg_of X G a, (fun_mk (st := s_table_of) l c k).binds (ps := ["schema", "name"]) fun _ _ _ _ _ _ us hl => match us, hl with | [_, _], _ => rfl⟩
theorem dm_key_of {K : PySem.W.Frag} {h : Heap} {mg : Str → Option Value} (X : K.In h) (G : h.Ns mainGlobals mg) {f : Addr} {oc : Value} {od an : Option Addr} {sl : Array (Option Value)} {kV dc pm cd ct : Value} (a : PySem.W.nsIn K mainGlobals "key_of" = some (some (.ref f))) (l : K.lookup f = some ⟨oc, od, .func (PySem.W.fnOf "key_of" "key_of" (defArgs s_key_of) (defBody s_key_of) (defScope s_key_of) .none kV dc pm an cd ct), sl⟩) (c : PySem.W.codeIn K cd "key_of" = true) (k : PySem.W.keepIn K (.ref f) = true) : Def K mg "key_of" s_key_of ["table", "row"] := ⟨_, _, fun_mk (st := s_key_of) l c k, PySem.W.mg_of X G a, (fun_mk (st := s_key_of) l c k).binds (ps := ["table", "row"]) fun _ _ _ _ _ _ us hl => match us, hl with | [_, _], _ => rfl⟩
theorem dm_place_of {K : PySem.W.Frag} {h : Heap} {mg : Str → Option Value} (X : K.In h) (G : h.Ns mainGlobals mg) {f : Addr} {oc : Value} {od an : Option Addr} {sl : Array (Option Value)} {kV dc pm cd ct : Value} (a : PySem.W.nsIn K mainGlobals "place_of" = some (some (.ref f))) (l : K.lookup f = some ⟨oc, od, .func (PySem.W.fnOf "place_of" "place_of" (defArgs s_place_of) (defBody s_place_of) (defScope s_place_of) .none kV dc pm an cd ct), sl⟩) (c : PySem.W.codeIn K cd "place_of" = true) (k : PySem.W.keepIn K (.ref f) = true) : Def K mg "place_of" s_place_of ["schema", "name", "row"] := ⟨_, _, fun_mk (st := s_place_of) l c k, PySem.W.mg_of X G a, (fun_mk (st := s_place_of) l c k).binds (ps := ["schema", "name", "row"]) fun _ _ _ _ _ _ us hl => match us, hl with | [_, _, _], _ => rfl⟩
theorem dm_later_end {K : PySem.W.Frag} {h : Heap} {mg : Str → Option Value} (X : K.In h) (G : h.Ns mainGlobals mg) {f : Addr} {oc : Value} {od an : Option Addr} {sl : Array (Option Value)} {kV dc pm cd ct : Value} (a : PySem.W.nsIn K mainGlobals "later_end" = some (some (.ref f))) (l : K.lookup f = some ⟨oc, od, .func (PySem.W.fnOf "later_end" "later_end" (defArgs s_later_end) (defBody s_later_end) (defScope s_later_end) .none kV dc pm an cd ct), sl⟩) (c : PySem.W.codeIn K cd "later_end" = true) (k : PySem.W.keepIn K (.ref f) = true) : Def K mg "later_end" s_later_end ["end", "other"] := ⟨_, _, fun_mk (st := s_later_end) l c k, PySem.W.mg_of X G a, (fun_mk (st := s_later_end) l c k).binds (ps := ["end", "other"]) fun _ _ _ _ _ _ us hl => match us, hl with | [_, _], _ => rfl⟩
theorem dm_earlier_end {K : PySem.W.Frag} {h : Heap} {mg : Str → Option Value} (X : K.In h) (G : h.Ns mainGlobals mg) {f : Addr} {oc : Value} {od an : Option Addr} {sl : Array (Option Value)} {kV dc pm cd ct : Value} (a : PySem.W.nsIn K mainGlobals "earlier_end" = some (some (.ref f))) (l : K.lookup f = some ⟨oc, od, .func (PySem.W.fnOf "earlier_end" "earlier_end" (defArgs s_earlier_end) (defBody s_earlier_end) (defScope s_earlier_end) .none kV dc pm an cd ct), sl⟩) (c : PySem.W.codeIn K cd "earlier_end" = true) (k : PySem.W.keepIn K (.ref f) = true) : Def K mg "earlier_end" s_earlier_end ["end", "other"] := ⟨_, _, fun_mk (st := s_earlier_end) l c k, PySem.W.mg_of X G a, (fun_mk (st := s_earlier_end) l c k).binds (ps := ["end", "other"]) fun _ _ _ _ _ _ us hl => match us, hl with | [_, _], _ => rfl⟩
theorem dm_has {K : PySem.W.Frag} {h : Heap} {mg : Str → Option Value} (X : K.In h) (G : h.Ns mainGlobals mg) {f : Addr} {oc : Value} {od an : Option Addr} {sl : Array (Option Value)} {kV dc pm cd ct : Value} (a : PySem.W.nsIn K mainGlobals "has" = some (some (.ref f))) (l : K.lookup f = some ⟨oc, od, .func (PySem.W.fnOf "has" "has" (defArgs s_has) (defBody s_has) (defScope s_has) .none kV dc pm an cd ct), sl⟩) (c : PySem.W.codeIn K cd "has" = true) (k : PySem.W.keepIn K (.ref f) = true) : Def K mg "has" s_has ["span", "moment"] := ⟨_, _, fun_mk (st := s_has) l c k, PySem.W.mg_of X G a, (fun_mk (st := s_has) l c k).binds (ps := ["span", "moment"]) fun _ _ _ _ _ _ us hl => match us, hl with | [_, _], _ => rfl⟩
theorem dm_met {K : PySem.W.Frag} {h : Heap} {mg : Str → Option Value} (X : K.In h) (G : h.Ns mainGlobals mg) {f : Addr} {oc : Value} {od an : Option Addr} {sl : Array (Option Value)} {kV dc pm cd ct : Value} (a : PySem.W.nsIn K mainGlobals "met" = some (some (.ref f))) (l : K.lookup f = some ⟨oc, od, .func (PySem.W.fnOf "met" "met" (defArgs s_met) (defBody s_met) (defScope s_met) .none kV dc pm an cd ct), sl⟩) (c : PySem.W.codeIn K cd "met" = true) (k : PySem.W.keepIn K (.ref f) = true) : Def K mg "met" s_met ["span", "other"] := ⟨_, _, fun_mk (st := s_met) l c k, PySem.W.mg_of X G a, (fun_mk (st := s_met) l c k).binds (ps := ["span", "other"]) fun _ _ _ _ _ _ us hl => match us, hl with | [_, _], _ => rfl⟩
theorem dm_rest {K : PySem.W.Frag} {h : Heap} {mg : Str → Option Value} (X : K.In h) (G : h.Ns mainGlobals mg) {f : Addr} {oc : Value} {od an : Option Addr} {sl : Array (Option Value)} {kV dc pm cd ct : Value} (a : PySem.W.nsIn K mainGlobals "rest" = some (some (.ref f))) (l : K.lookup f = some ⟨oc, od, .func (PySem.W.fnOf "rest" "rest" (defArgs s_rest) (defBody s_rest) (defScope s_rest) .none kV dc pm an cd ct), sl⟩) (c : PySem.W.codeIn K cd "rest" = true) (k : PySem.W.keepIn K (.ref f) = true) : Def K mg "rest" s_rest ["span"] := ⟨_, _, fun_mk (st := s_rest) l c k, PySem.W.mg_of X G a, (fun_mk (st := s_rest) l c k).binds (ps := ["span"]) fun _ _ _ _ _ _ us hl => match us, hl with | [_], _ => rfl⟩
theorem dm_without {K : PySem.W.Frag} {h : Heap} {mg : Str → Option Value} (X : K.In h) (G : h.Ns mainGlobals mg) {f : Addr} {oc : Value} {od an : Option Addr} {sl : Array (Option Value)} {kV dc pm cd ct : Value} (a : PySem.W.nsIn K mainGlobals "without" = some (some (.ref f))) (l : K.lookup f = some ⟨oc, od, .func (PySem.W.fnOf "without" "without" (defArgs s_without) (defBody s_without) (defScope s_without) .none kV dc pm an cd ct), sl⟩) (c : PySem.W.codeIn K cd "without" = true) (k : PySem.W.keepIn K (.ref f) = true) : Def K mg "without" s_without ["span", "other"] := ⟨_, _, fun_mk (st := s_without) l c k, PySem.W.mg_of X G a, (fun_mk (st := s_without) l c k).binds (ps := ["span", "other"]) fun _ _ _ _ _ _ us hl => match us, hl with | [_, _], _ => rfl⟩
theorem dm_verdicts_by_place {K : PySem.W.Frag} {h : Heap} {mg : Str → Option Value} (X : K.In h) (G : h.Ns mainGlobals mg) {f : Addr} {oc : Value} {od an : Option Addr} {sl : Array (Option Value)} {kV dc pm cd ct : Value} (a : PySem.W.nsIn K mainGlobals "verdicts_by_place" = some (some (.ref f))) (l : K.lookup f = some ⟨oc, od, .func (PySem.W.fnOf "verdicts_by_place" "verdicts_by_place" (defArgs s_verdicts_by_place) (defBody s_verdicts_by_place) (defScope s_verdicts_by_place) .none kV dc pm an cd ct), sl⟩) (c : PySem.W.codeIn K cd "verdicts_by_place" = true) (k : PySem.W.keepIn K (.ref f) = true) : Def K mg "verdicts_by_place" s_verdicts_by_place ["schema", "verdicts"] := ⟨_, _, fun_mk (st := s_verdicts_by_place) l c k, PySem.W.mg_of X G a, (fun_mk (st := s_verdicts_by_place) l c k).binds (ps := ["schema", "verdicts"]) fun _ _ _ _ _ _ us hl => match us, hl with | [_, _], _ => rfl⟩
theorem dm_cut_span {K : PySem.W.Frag} {h : Heap} {mg : Str → Option Value} (X : K.In h) (G : h.Ns mainGlobals mg) {f : Addr} {oc : Value} {od an : Option Addr} {sl : Array (Option Value)} {kV dc pm cd ct : Value} (a : PySem.W.nsIn K mainGlobals "cut_span" = some (some (.ref f))) (l : K.lookup f = some ⟨oc, od, .func (PySem.W.fnOf "cut_span" "cut_span" (defArgs s_cut_span) (defBody s_cut_span) (defScope s_cut_span) .none kV dc pm an cd ct), sl⟩) (c : PySem.W.codeIn K cd "cut_span" = true) (k : PySem.W.keepIn K (.ref f) = true) : Def K mg "cut_span" s_cut_span ["report", "verdicts"] := ⟨_, _, fun_mk (st := s_cut_span) l c k, PySem.W.mg_of X G a, (fun_mk (st := s_cut_span) l c k).binds (ps := ["report", "verdicts"]) fun _ _ _ _ _ _ us hl => match us, hl with | [_, _], _ => rfl⟩
theorem dm_cut_reports {K : PySem.W.Frag} {h : Heap} {mg : Str → Option Value} (X : K.In h) (G : h.Ns mainGlobals mg) {f : Addr} {oc : Value} {od an : Option Addr} {sl : Array (Option Value)} {kV dc pm cd ct : Value} (a : PySem.W.nsIn K mainGlobals "cut_reports" = some (some (.ref f))) (l : K.lookup f = some ⟨oc, od, .func (PySem.W.fnOf "cut_reports" "cut_reports" (defArgs s_cut_reports) (defBody s_cut_reports) (defScope s_cut_reports) .none kV dc pm an cd ct), sl⟩) (c : PySem.W.codeIn K cd "cut_reports" = true) (k : PySem.W.keepIn K (.ref f) = true) : Def K mg "cut_reports" s_cut_reports ["schema", "told"] := ⟨_, _, fun_mk (st := s_cut_reports) l c k, PySem.W.mg_of X G a, (fun_mk (st := s_cut_reports) l c k).binds (ps := ["schema", "told"]) fun _ _ _ _ _ _ us hl => match us, hl with | [_, _], _ => rfl⟩
theorem dm_told_rows {K : PySem.W.Frag} {h : Heap} {mg : Str → Option Value} (X : K.In h) (G : h.Ns mainGlobals mg) {f : Addr} {oc : Value} {od an : Option Addr} {sl : Array (Option Value)} {kV dc pm cd ct : Value} (a : PySem.W.nsIn K mainGlobals "told_rows" = some (some (.ref f))) (l : K.lookup f = some ⟨oc, od, .func (PySem.W.fnOf "told_rows" "told_rows" (defArgs s_told_rows) (defBody s_told_rows) (defScope s_told_rows) .none kV dc pm an cd ct), sl⟩) (c : PySem.W.codeIn K cd "told_rows" = true) (k : PySem.W.keepIn K (.ref f) = true) : Def K mg "told_rows" s_told_rows ["schema", "told", "name", "key", "moment"] := ⟨_, _, fun_mk (st := s_told_rows) l c k, PySem.W.mg_of X G a, (fun_mk (st := s_told_rows) l c k).binds (ps := ["schema", "told", "name", "key", "moment"]) fun _ _ _ _ _ _ us hl => match us, hl with | [_, _, _, _, _], _ => rfl⟩
theorem dm_l_draws {K : PySem.W.Frag} {h : Heap} {mg : Str → Option Value} (X : K.In h) (G : h.Ns mainGlobals mg) {f : Addr} {oc : Value} {od an : Option Addr} {sl : Array (Option Value)} {kV dc pm cd ct : Value} (a : PySem.W.nsIn K mainGlobals "_law_draws" = some (some (.ref f))) (l : K.lookup f = some ⟨oc, od, .func (PySem.W.fnOf "_law_draws" "_law_draws" (defArgs s_l_draws) (defBody s_l_draws) (defScope s_l_draws) .none kV dc pm an cd ct), sl⟩) (c : PySem.W.codeIn K cd "_law_draws" = true) (k : PySem.W.keepIn K (.ref f) = true) : Def K mg "_law_draws" s_l_draws ["script", "many"] := ⟨_, _, fun_mk (st := s_l_draws) l c k, PySem.W.mg_of X G a, (fun_mk (st := s_l_draws) l c k).binds (ps := ["script", "many"]) fun _ _ _ _ _ _ us hl => match us, hl with | [_, _], _ => rfl⟩
theorem dm_l_take {K : PySem.W.Frag} {h : Heap} {mg : Str → Option Value} (X : K.In h) (G : h.Ns mainGlobals mg) {f : Addr} {oc : Value} {od an : Option Addr} {sl : Array (Option Value)} {kV dc pm cd ct : Value} (a : PySem.W.nsIn K mainGlobals "_law_take" = some (some (.ref f))) (l : K.lookup f = some ⟨oc, od, .func (PySem.W.fnOf "_law_take" "_law_take" (defArgs s_l_take) (defBody s_l_take) (defScope s_l_take) .none kV dc pm an cd ct), sl⟩) (c : PySem.W.codeIn K cd "_law_take" = true) (k : PySem.W.keepIn K (.ref f) = true) : Def K mg "_law_take" s_l_take ["draws", "many"] := ⟨_, _, fun_mk (st := s_l_take) l c k, PySem.W.mg_of X G a, (fun_mk (st := s_l_take) l c k).binds (ps := ["draws", "many"]) fun _ _ _ _ _ _ us hl => match us, hl with | [_, _], _ => rfl⟩
theorem dm_l_pick {K : PySem.W.Frag} {h : Heap} {mg : Str → Option Value} (X : K.In h) (G : h.Ns mainGlobals mg) {f : Addr} {oc : Value} {od an : Option Addr} {sl : Array (Option Value)} {kV dc pm cd ct : Value} (a : PySem.W.nsIn K mainGlobals "_law_pick" = some (some (.ref f))) (l : K.lookup f = some ⟨oc, od, .func (PySem.W.fnOf "_law_pick" "_law_pick" (defArgs s_l_pick) (defBody s_l_pick) (defScope s_l_pick) .none kV dc pm an cd ct), sl⟩) (c : PySem.W.codeIn K cd "_law_pick" = true) (k : PySem.W.keepIn K (.ref f) = true) : Def K mg "_law_pick" s_l_pick ["draws", "row"] := ⟨_, _, fun_mk (st := s_l_pick) l c k, PySem.W.mg_of X G a, (fun_mk (st := s_l_pick) l c k).binds (ps := ["draws", "row"]) fun _ _ _ _ _ _ us hl => match us, hl with | [_, _], _ => rfl⟩
theorem dm_l_same {K : PySem.W.Frag} {h : Heap} {mg : Str → Option Value} (X : K.In h) (G : h.Ns mainGlobals mg) {f : Addr} {oc : Value} {od an : Option Addr} {sl : Array (Option Value)} {kV dc pm cd ct : Value} (a : PySem.W.nsIn K mainGlobals "_law_same" = some (some (.ref f))) (l : K.lookup f = some ⟨oc, od, .func (PySem.W.fnOf "_law_same" "_law_same" (defArgs s_l_same) (defBody s_l_same) (defScope s_l_same) .none kV dc pm an cd ct), sl⟩) (c : PySem.W.codeIn K cd "_law_same" = true) (k : PySem.W.keepIn K (.ref f) = true) : Def K mg "_law_same" s_l_same ["actual", "due"] := ⟨_, _, fun_mk (st := s_l_same) l c k, PySem.W.mg_of X G a, (fun_mk (st := s_l_same) l c k).binds (ps := ["actual", "due"]) fun _ _ _ _ _ _ us hl => match us, hl with | [_, _], _ => rfl⟩
theorem dm_l_words {K : PySem.W.Frag} {h : Heap} {mg : Str → Option Value} (X : K.In h) (G : h.Ns mainGlobals mg) {f : Addr} {oc : Value} {od an : Option Addr} {sl : Array (Option Value)} {kV dc pm cd ct : Value} (a : PySem.W.nsIn K mainGlobals "_law_words" = some (some (.ref f))) (l : K.lookup f = some ⟨oc, od, .func (PySem.W.fnOf "_law_words" "_law_words" (defArgs s_l_words) (defBody s_l_words) (defScope s_l_words) .none kV dc pm an cd ct), sl⟩) (c : PySem.W.codeIn K cd "_law_words" = true) (k : PySem.W.keepIn K (.ref f) = true) : Def K mg "_law_words" s_l_words ["draws", "many"] := ⟨_, _, fun_mk (st := s_l_words) l c k, PySem.W.mg_of X G a, (fun_mk (st := s_l_words) l c k).binds (ps := ["draws", "many"]) fun _ _ _ _ _ _ us hl => match us, hl with | [_, _], _ => rfl⟩
theorem dm_l_value_key {K : PySem.W.Frag} {h : Heap} {mg : Str → Option Value} (X : K.In h) (G : h.Ns mainGlobals mg) {f : Addr} {oc : Value} {od an : Option Addr} {sl : Array (Option Value)} {kV dc pm cd ct : Value} (a : PySem.W.nsIn K mainGlobals "_law_value_key" = some (some (.ref f))) (l : K.lookup f = some ⟨oc, od, .func (PySem.W.fnOf "_law_value_key" "_law_value_key" (defArgs s_l_value_key) (defBody s_l_value_key) (defScope s_l_value_key) .none kV dc pm an cd ct), sl⟩) (c : PySem.W.codeIn K cd "_law_value_key" = true) (k : PySem.W.keepIn K (.ref f) = true) : Def K mg "_law_value_key" s_l_value_key ["value"] := ⟨_, _, fun_mk (st := s_l_value_key) l c k, PySem.W.mg_of X G a, (fun_mk (st := s_l_value_key) l c k).binds (ps := ["value"]) fun _ _ _ _ _ _ us hl => match us, hl with | [_], _ => rfl⟩
theorem dm_l_row_key {K : PySem.W.Frag} {h : Heap} {mg : Str → Option Value} (X : K.In h) (G : h.Ns mainGlobals mg) {f : Addr} {oc : Value} {od an : Option Addr} {sl : Array (Option Value)} {kV dc pm cd ct : Value} (a : PySem.W.nsIn K mainGlobals "_law_row_key" = some (some (.ref f))) (l : K.lookup f = some ⟨oc, od, .func (PySem.W.fnOf "_law_row_key" "_law_row_key" (defArgs s_l_row_key) (defBody s_l_row_key) (defScope s_l_row_key) .none kV dc pm an cd ct), sl⟩) (c : PySem.W.codeIn K cd "_law_row_key" = true) (k : PySem.W.keepIn K (.ref f) = true) : Def K mg "_law_row_key" s_l_row_key ["row"] := ⟨_, _, fun_mk (st := s_l_row_key) l c k, PySem.W.mg_of X G a, (fun_mk (st := s_l_row_key) l c k).binds (ps := ["row"]) fun _ _ _ _ _ _ us hl => match us, hl with | [_], _ => rfl⟩
theorem dm_l_sorted_rows {K : PySem.W.Frag} {h : Heap} {mg : Str → Option Value} (X : K.In h) (G : h.Ns mainGlobals mg) {f : Addr} {oc : Value} {od an : Option Addr} {sl : Array (Option Value)} {kV dc pm cd ct : Value} (a : PySem.W.nsIn K mainGlobals "_law_sorted_rows" = some (some (.ref f))) (l : K.lookup f = some ⟨oc, od, .func (PySem.W.fnOf "_law_sorted_rows" "_law_sorted_rows" (defArgs s_l_sorted_rows) (defBody s_l_sorted_rows) (defScope s_l_sorted_rows) .none kV dc pm an cd ct), sl⟩) (c : PySem.W.codeIn K cd "_law_sorted_rows" = true) (k : PySem.W.keepIn K (.ref f) = true) : Def K mg "_law_sorted_rows" s_l_sorted_rows ["rows"] := ⟨_, _, fun_mk (st := s_l_sorted_rows) l c k, PySem.W.mg_of X G a, (fun_mk (st := s_l_sorted_rows) l c k).binds (ps := ["rows"]) fun _ _ _ _ _ _ us hl => match us, hl with | [_], _ => rfl⟩
theorem dm_l_values {K : PySem.W.Frag} {h : Heap} {mg : Str → Option Value} (X : K.In h) (G : h.Ns mainGlobals mg) {f : Addr} {oc : Value} {od an : Option Addr} {sl : Array (Option Value)} {kV dc pm cd ct : Value} (a : PySem.W.nsIn K mainGlobals "_law_values" = some (some (.ref f))) (l : K.lookup f = some ⟨oc, od, .func (PySem.W.fnOf "_law_values" "_law_values" (defArgs s_l_values) (defBody s_l_values) (defScope s_l_values) .none kV dc pm an cd ct), sl⟩) (c : PySem.W.codeIn K cd "_law_values" = true) (k : PySem.W.keepIn K (.ref f) = true) : Def K mg "_law_values" s_l_values ["draws", "words"] := ⟨_, _, fun_mk (st := s_l_values) l c k, PySem.W.mg_of X G a, (fun_mk (st := s_l_values) l c k).binds (ps := ["draws", "words"]) fun _ _ _ _ _ _ us hl => match us, hl with | [_, _], _ => rfl⟩
theorem dm_l_schema {K : PySem.W.Frag} {h : Heap} {mg : Str → Option Value} (X : K.In h) (G : h.Ns mainGlobals mg) {f : Addr} {oc : Value} {od an : Option Addr} {sl : Array (Option Value)} {kV dc pm cd ct : Value} (a : PySem.W.nsIn K mainGlobals "_law_schema" = some (some (.ref f))) (l : K.lookup f = some ⟨oc, od, .func (PySem.W.fnOf "_law_schema" "_law_schema" (defArgs s_l_schema) (defBody s_l_schema) (defScope s_l_schema) .none kV dc pm an cd ct), sl⟩) (c : PySem.W.codeIn K cd "_law_schema" = true) (k : PySem.W.keepIn K (.ref f) = true) : Def K mg "_law_schema" s_l_schema ["draws", "words"] := ⟨_, _, fun_mk (st := s_l_schema) l c k, PySem.W.mg_of X G a, (fun_mk (st := s_l_schema) l c k).binds (ps := ["draws", "words"]) fun _ _ _ _ _ _ us hl => match us, hl with | [_, _], _ => rfl⟩
theorem dm_l_span {K : PySem.W.Frag} {h : Heap} {mg : Str → Option Value} (X : K.In h) (G : h.Ns mainGlobals mg) {f : Addr} {oc : Value} {od an : Option Addr} {sl : Array (Option Value)} {kV dc pm cd ct : Value} (a : PySem.W.nsIn K mainGlobals "_law_span" = some (some (.ref f))) (l : K.lookup f = some ⟨oc, od, .func (PySem.W.fnOf "_law_span" "_law_span" (defArgs s_l_span) (defBody s_l_span) (defScope s_l_span) .none kV dc pm an cd ct), sl⟩) (c : PySem.W.codeIn K cd "_law_span" = true) (k : PySem.W.keepIn K (.ref f) = true) : Def K mg "_law_span" s_l_span ["draws", "great"] := ⟨_, _, fun_mk (st := s_l_span) l c k, PySem.W.mg_of X G a, (fun_mk (st := s_l_span) l c k).binds (ps := ["draws", "great"]) fun _ _ _ _ _ _ us hl => match us, hl with | [_, _], _ => rfl⟩
theorem dm_l_has {K : PySem.W.Frag} {h : Heap} {mg : Str → Option Value} (X : K.In h) (G : h.Ns mainGlobals mg) {f : Addr} {oc : Value} {od an : Option Addr} {sl : Array (Option Value)} {kV dc pm cd ct : Value} (a : PySem.W.nsIn K mainGlobals "_law_has" = some (some (.ref f))) (l : K.lookup f = some ⟨oc, od, .func (PySem.W.fnOf "_law_has" "_law_has" (defArgs s_l_has) (defBody s_l_has) (defScope s_l_has) .none kV dc pm an cd ct), sl⟩) (c : PySem.W.codeIn K cd "_law_has" = true) (k : PySem.W.keepIn K (.ref f) = true) : Def K mg "_law_has" s_l_has ["span", "moment"] := ⟨_, _, fun_mk (st := s_l_has) l c k, PySem.W.mg_of X G a, (fun_mk (st := s_l_has) l c k).binds (ps := ["span", "moment"]) fun _ _ _ _ _ _ us hl => match us, hl with | [_, _], _ => rfl⟩
theorem dm_l_meet {K : PySem.W.Frag} {h : Heap} {mg : Str → Option Value} (X : K.In h) (G : h.Ns mainGlobals mg) {f : Addr} {oc : Value} {od an : Option Addr} {sl : Array (Option Value)} {kV dc pm cd ct : Value} (a : PySem.W.nsIn K mainGlobals "_law_meet" = some (some (.ref f))) (l : K.lookup f = some ⟨oc, od, .func (PySem.W.fnOf "_law_meet" "_law_meet" (defArgs s_l_meet) (defBody s_l_meet) (defScope s_l_meet) .none kV dc pm an cd ct), sl⟩) (c : PySem.W.codeIn K cd "_law_meet" = true) (k : PySem.W.keepIn K (.ref f) = true) : Def K mg "_law_meet" s_l_meet ["span", "other"] := ⟨_, _, fun_mk (st := s_l_meet) l c k, PySem.W.mg_of X G a, (fun_mk (st := s_l_meet) l c k).binds (ps := ["span", "other"]) fun _ _ _ _ _ _ us hl => match us, hl with | [_, _], _ => rfl⟩
theorem dm_l_key_of {K : PySem.W.Frag} {h : Heap} {mg : Str → Option Value} (X : K.In h) (G : h.Ns mainGlobals mg) {f : Addr} {oc : Value} {od an : Option Addr} {sl : Array (Option Value)} {kV dc pm cd ct : Value} (a : PySem.W.nsIn K mainGlobals "_law_key_of" = some (some (.ref f))) (l : K.lookup f = some ⟨oc, od, .func (PySem.W.fnOf "_law_key_of" "_law_key_of" (defArgs s_l_key_of) (defBody s_l_key_of) (defScope s_l_key_of) .none kV dc pm an cd ct), sl⟩) (c : PySem.W.codeIn K cd "_law_key_of" = true) (k : PySem.W.keepIn K (.ref f) = true) : Def K mg "_law_key_of" s_l_key_of ["schema", "name", "row"] := ⟨_, _, fun_mk (st := s_l_key_of) l c k, PySem.W.mg_of X G a, (fun_mk (st := s_l_key_of) l c k).binds (ps := ["schema", "name", "row"]) fun _ _ _ _ _ _ us hl => match us, hl with | [_, _, _], _ => rfl⟩
theorem dm_l_drawn_row {K : PySem.W.Frag} {h : Heap} {mg : Str → Option Value} (X : K.In h) (G : h.Ns mainGlobals mg) {f : Addr} {oc : Value} {od an : Option Addr} {sl : Array (Option Value)} {kV dc pm cd ct : Value} (a : PySem.W.nsIn K mainGlobals "_law_drawn_row" = some (some (.ref f))) (l : K.lookup f = some ⟨oc, od, .func (PySem.W.fnOf "_law_drawn_row" "_law_drawn_row" (defArgs s_l_drawn_row) (defBody s_l_drawn_row) (defScope s_l_drawn_row) .none kV dc pm an cd ct), sl⟩) (c : PySem.W.codeIn K cd "_law_drawn_row" = true) (k : PySem.W.keepIn K (.ref f) = true) : Def K mg "_law_drawn_row" s_l_drawn_row ["draws", "table", "values"] := ⟨_, _, fun_mk (st := s_l_drawn_row) l c k, PySem.W.mg_of X G a, (fun_mk (st := s_l_drawn_row) l c k).binds (ps := ["draws", "table", "values"]) fun _ _ _ _ _ _ us hl => match us, hl with | [_, _, _], _ => rfl⟩
theorem dm_l_reports {K : PySem.W.Frag} {h : Heap} {mg : Str → Option Value} (X : K.In h) (G : h.Ns mainGlobals mg) {f : Addr} {oc : Value} {od an : Option Addr} {sl : Array (Option Value)} {kV dc pm cd ct : Value} (a : PySem.W.nsIn K mainGlobals "_law_reports" = some (some (.ref f))) (l : K.lookup f = some ⟨oc, od, .func (PySem.W.fnOf "_law_reports" "_law_reports" (defArgs s_l_reports) (defBody s_l_reports) (defScope s_l_reports) .none kV dc pm an cd ct), sl⟩) (c : PySem.W.codeIn K cd "_law_reports" = true) (k : PySem.W.keepIn K (.ref f) = true) : Def K mg "_law_reports" s_l_reports ["draws", "schema", "values", "sources", "many", "great"] := ⟨_, _, fun_mk (st := s_l_reports) l c k, PySem.W.mg_of X G a, (fun_mk (st := s_l_reports) l c k).binds (ps := ["draws", "schema", "values", "sources", "many", "great"]) fun _ _ _ _ _ _ us hl => match us, hl with | [_, _, _, _, _, _], _ => rfl⟩
theorem dm_l_clash {K : PySem.W.Frag} {h : Heap} {mg : Str → Option Value} (X : K.In h) (G : h.Ns mainGlobals mg) {f : Addr} {oc : Value} {od an : Option Addr} {sl : Array (Option Value)} {kV dc pm cd ct : Value} (a : PySem.W.nsIn K mainGlobals "_law_clash" = some (some (.ref f))) (l : K.lookup f = some ⟨oc, od, .func (PySem.W.fnOf "_law_clash" "_law_clash" (defArgs s_l_clash) (defBody s_l_clash) (defScope s_l_clash) .none kV dc pm an cd ct), sl⟩) (c : PySem.W.codeIn K cd "_law_clash" = true) (k : PySem.W.keepIn K (.ref f) = true) : Def K mg "_law_clash" s_l_clash ["schema", "verdict", "other"] := ⟨_, _, fun_mk (st := s_l_clash) l c k, PySem.W.mg_of X G a, (fun_mk (st := s_l_clash) l c k).binds (ps := ["schema", "verdict", "other"]) fun _ _ _ _ _ _ us hl => match us, hl with | [_, _, _], _ => rfl⟩
theorem dm_l_number {K : PySem.W.Frag} {h : Heap} {mg : Str → Option Value} (X : K.In h) (G : h.Ns mainGlobals mg) {f : Addr} {oc : Value} {od an : Option Addr} {sl : Array (Option Value)} {kV dc pm cd ct : Value} (a : PySem.W.nsIn K mainGlobals "_law_number" = some (some (.ref f))) (l : K.lookup f = some ⟨oc, od, .func (PySem.W.fnOf "_law_number" "_law_number" (defArgs s_l_number) (defBody s_l_number) (defScope s_l_number) .none kV dc pm an cd ct), sl⟩) (c : PySem.W.codeIn K cd "_law_number" = true) (k : PySem.W.keepIn K (.ref f) = true) : Def K mg "_law_number" s_l_number ["part"] := ⟨_, _, fun_mk (st := s_l_number) l c k, PySem.W.mg_of X G a, (fun_mk (st := s_l_number) l c k).binds (ps := ["part"]) fun _ _ _ _ _ _ us hl => match us, hl with | [_], _ => rfl⟩
theorem dm_l_trust {K : PySem.W.Frag} {h : Heap} {mg : Str → Option Value} (X : K.In h) (G : h.Ns mainGlobals mg) {f : Addr} {oc : Value} {od an : Option Addr} {sl : Array (Option Value)} {kV dc pm cd ct : Value} (a : PySem.W.nsIn K mainGlobals "_law_trust" = some (some (.ref f))) (l : K.lookup f = some ⟨oc, od, .func (PySem.W.fnOf "_law_trust" "_law_trust" (defArgs s_l_trust) (defBody s_l_trust) (defScope s_l_trust) .none kV dc pm an cd ct), sl⟩) (c : PySem.W.codeIn K cd "_law_trust" = true) (k : PySem.W.keepIn K (.ref f) = true) : Def K mg "_law_trust" s_l_trust ["draws", "sources"] := ⟨_, _, fun_mk (st := s_l_trust) l c k, PySem.W.mg_of X G a, (fun_mk (st := s_l_trust) l c k).binds (ps := ["draws", "sources"]) fun _ _ _ _ _ _ us hl => match us, hl with | [_, _], _ => rfl⟩
theorem dm_l_told {K : PySem.W.Frag} {h : Heap} {mg : Str → Option Value} (X : K.In h) (G : h.Ns mainGlobals mg) {f : Addr} {oc : Value} {od an : Option Addr} {sl : Array (Option Value)} {kV dc pm cd ct : Value} (a : PySem.W.nsIn K mainGlobals "_law_told" = some (some (.ref f))) (l : K.lookup f = some ⟨oc, od, .func (PySem.W.fnOf "_law_told" "_law_told" (defArgs s_l_told) (defBody s_l_told) (defScope s_l_told) .none kV dc pm an cd ct), sl⟩) (c : PySem.W.codeIn K cd "_law_told" = true) (k : PySem.W.keepIn K (.ref f) = true) : Def K mg "_law_told" s_l_told ["draws", "schema", "values", "sources", "most", "great"] := ⟨_, _, fun_mk (st := s_l_told) l c k, PySem.W.mg_of X G a, (fun_mk (st := s_l_told) l c k).binds (ps := ["draws", "schema", "values", "sources", "most", "great"]) fun _ _ _ _ _ _ us hl => match us, hl with | [_, _, _, _, _, _], _ => rfl⟩
theorem dm_l_is_cut {K : PySem.W.Frag} {h : Heap} {mg : Str → Option Value} (X : K.In h) (G : h.Ns mainGlobals mg) {f : Addr} {oc : Value} {od an : Option Addr} {sl : Array (Option Value)} {kV dc pm cd ct : Value} (a : PySem.W.nsIn K mainGlobals "_law_is_cut" = some (some (.ref f))) (l : K.lookup f = some ⟨oc, od, .func (PySem.W.fnOf "_law_is_cut" "_law_is_cut" (defArgs s_l_is_cut) (defBody s_l_is_cut) (defScope s_l_is_cut) .none kV dc pm an cd ct), sl⟩) (c : PySem.W.codeIn K cd "_law_is_cut" = true) (k : PySem.W.keepIn K (.ref f) = true) : Def K mg "_law_is_cut" s_l_is_cut ["schema", "told", "report", "moment"] := ⟨_, _, fun_mk (st := s_l_is_cut) l c k, PySem.W.mg_of X G a, (fun_mk (st := s_l_is_cut) l c k).binds (ps := ["schema", "told", "report", "moment"]) fun _ _ _ _ _ _ us hl => match us, hl with | [_, _, _, _], _ => rfl⟩
theorem dm_l_telling {K : PySem.W.Frag} {h : Heap} {mg : Str → Option Value} (X : K.In h) (G : h.Ns mainGlobals mg) {f : Addr} {oc : Value} {od an : Option Addr} {sl : Array (Option Value)} {kV dc pm cd ct : Value} (a : PySem.W.nsIn K mainGlobals "_law_telling" = some (some (.ref f))) (l : K.lookup f = some ⟨oc, od, .func (PySem.W.fnOf "_law_telling" "_law_telling" (defArgs s_l_telling) (defBody s_l_telling) (defScope s_l_telling) .none kV dc pm an cd ct), sl⟩) (c : PySem.W.codeIn K cd "_law_telling" = true) (k : PySem.W.keepIn K (.ref f) = true) : Def K mg "_law_telling" s_l_telling ["schema", "told", "moment"] := ⟨_, _, fun_mk (st := s_l_telling) l c k, PySem.W.mg_of X G a, (fun_mk (st := s_l_telling) l c k).binds (ps := ["schema", "told", "moment"]) fun _ _ _ _ _ _ us hl => match us, hl with | [_, _, _], _ => rfl⟩
theorem dm_l_turns {K : PySem.W.Frag} {h : Heap} {mg : Str → Option Value} (X : K.In h) (G : h.Ns mainGlobals mg) {f : Addr} {oc : Value} {od an : Option Addr} {sl : Array (Option Value)} {kV dc pm cd ct : Value} (a : PySem.W.nsIn K mainGlobals "_law_turns" = some (some (.ref f))) (l : K.lookup f = some ⟨oc, od, .func (PySem.W.fnOf "_law_turns" "_law_turns" (defArgs s_l_turns) (defBody s_l_turns) (defScope s_l_turns) .none kV dc pm an cd ct), sl⟩) (c : PySem.W.codeIn K cd "_law_turns" = true) (k : PySem.W.keepIn K (.ref f) = true) : Def K mg "_law_turns" s_l_turns ["told"] := ⟨_, _, fun_mk (st := s_l_turns) l c k, PySem.W.mg_of X G a, (fun_mk (st := s_l_turns) l c k).binds (ps := ["told"]) fun _ _ _ _ _ _ us hl => match us, hl with | [_], _ => rfl⟩
theorem dm_l_place_key {K : PySem.W.Frag} {h : Heap} {mg : Str → Option Value} (X : K.In h) (G : h.Ns mainGlobals mg) {f : Addr} {oc : Value} {od an : Option Addr} {sl : Array (Option Value)} {kV dc pm cd ct : Value} (a : PySem.W.nsIn K mainGlobals "_law_place_key" = some (some (.ref f))) (l : K.lookup f = some ⟨oc, od, .func (PySem.W.fnOf "_law_place_key" "_law_place_key" (defArgs s_l_place_key) (defBody s_l_place_key) (defScope s_l_place_key) .none kV dc pm an cd ct), sl⟩) (c : PySem.W.codeIn K cd "_law_place_key" = true) (k : PySem.W.keepIn K (.ref f) = true) : Def K mg "_law_place_key" s_l_place_key ["pair"] := ⟨_, _, fun_mk (st := s_l_place_key) l c k, PySem.W.mg_of X G a, (fun_mk (st := s_l_place_key) l c k).binds (ps := ["pair"]) fun _ _ _ _ _ _ us hl => match us, hl with | [_], _ => rfl⟩
theorem dm_l_keys {K : PySem.W.Frag} {h : Heap} {mg : Str → Option Value} (X : K.In h) (G : h.Ns mainGlobals mg) {f : Addr} {oc : Value} {od an : Option Addr} {sl : Array (Option Value)} {kV dc pm cd ct : Value} (a : PySem.W.nsIn K mainGlobals "_law_keys" = some (some (.ref f))) (l : K.lookup f = some ⟨oc, od, .func (PySem.W.fnOf "_law_keys" "_law_keys" (defArgs s_l_keys) (defBody s_l_keys) (defScope s_l_keys) .none kV dc pm an cd ct), sl⟩) (c : PySem.W.codeIn K cd "_law_keys" = true) (k : PySem.W.keepIn K (.ref f) = true) : Def K mg "_law_keys" s_l_keys ["schema", "told"] := ⟨_, _, fun_mk (st := s_l_keys) l c k, PySem.W.mg_of X G a, (fun_mk (st := s_l_keys) l c k).binds (ps := ["schema", "told"]) fun _ _ _ _ _ _ us hl => match us, hl with | [_, _], _ => rfl⟩
theorem dm_l_span_by {K : PySem.W.Frag} {h : Heap} {mg : Str → Option Value} (X : K.In h) (G : h.Ns mainGlobals mg) {f : Addr} {oc : Value} {od an : Option Addr} {sl : Array (Option Value)} {kV dc pm cd ct : Value} (a : PySem.W.nsIn K mainGlobals "_law_span_by" = some (some (.ref f))) (l : K.lookup f = some ⟨oc, od, .func (PySem.W.fnOf "_law_span_by" "_law_span_by" (defArgs s_l_span_by) (defBody s_l_span_by) (defScope s_l_span_by) .none kV dc pm an cd ct), sl⟩) (c : PySem.W.codeIn K cd "_law_span_by" = true) (k : PySem.W.keepIn K (.ref f) = true) : Def K mg "_law_span_by" s_l_span_by ["turns", "flags"] := ⟨_, _, fun_mk (st := s_l_span_by) l c k, PySem.W.mg_of X G a, (fun_mk (st := s_l_span_by) l c k).binds (ps := ["turns", "flags"]) fun _ _ _ _ _ _ us hl => match us, hl with | [_, _], _ => rfl⟩
theorem dm_l_scale {K : PySem.W.Frag} {h : Heap} {mg : Str → Option Value} (X : K.In h) (G : h.Ns mainGlobals mg) {f : Addr} {oc : Value} {od an : Option Addr} {sl : Array (Option Value)} {kV dc pm cd ct : Value} (a : PySem.W.nsIn K mainGlobals "_law_scale" = some (some (.ref f))) (l : K.lookup f = some ⟨oc, od, .func (PySem.W.fnOf "_law_scale" "_law_scale" (defArgs s_l_scale) (defBody s_l_scale) (defScope s_l_scale) .none kV dc pm an cd ct), sl⟩) (c : PySem.W.codeIn K cd "_law_scale" = true) (k : PySem.W.keepIn K (.ref f) = true) : Def K mg "_law_scale" s_l_scale ["draws"] := ⟨_, _, fun_mk (st := s_l_scale) l c k, PySem.W.mg_of X G a, (fun_mk (st := s_l_scale) l c k).binds (ps := ["draws"]) fun _ _ _ _ _ _ us hl => match us, hl with | [_], _ => rfl⟩
theorem dm_l_far {K : PySem.W.Frag} {h : Heap} {mg : Str → Option Value} (X : K.In h) (G : h.Ns mainGlobals mg) {f : Addr} {oc : Value} {od an : Option Addr} {sl : Array (Option Value)} {kV dc pm cd ct : Value} (a : PySem.W.nsIn K mainGlobals "_law_far" = some (some (.ref f))) (l : K.lookup f = some ⟨oc, od, .func (PySem.W.fnOf "_law_far" "_law_far" (defArgs s_l_far) (defBody s_l_far) (defScope s_l_far) .none kV dc pm an cd ct), sl⟩) (c : PySem.W.codeIn K cd "_law_far" = true) (k : PySem.W.keepIn K (.ref f) = true) : Def K mg "_law_far" s_l_far ["draws", "told"] := ⟨_, _, fun_mk (st := s_l_far) l c k, PySem.W.mg_of X G a, (fun_mk (st := s_l_far) l c k).binds (ps := ["draws", "told"]) fun _ _ _ _ _ _ us hl => match us, hl with | [_, _], _ => rfl⟩
theorem dm_l_world {K : PySem.W.Frag} {h : Heap} {mg : Str → Option Value} (X : K.In h) (G : h.Ns mainGlobals mg) {f : Addr} {oc : Value} {od an : Option Addr} {sl : Array (Option Value)} {kV dc pm cd ct : Value} (a : PySem.W.nsIn K mainGlobals "_law_world" = some (some (.ref f))) (l : K.lookup f = some ⟨oc, od, .func (PySem.W.fnOf "_law_world" "_law_world" (defArgs s_l_world) (defBody s_l_world) (defScope s_l_world) .none kV dc pm an cd ct), sl⟩) (c : PySem.W.codeIn K cd "_law_world" = true) (k : PySem.W.keepIn K (.ref f) = true) : Def K mg "_law_world" s_l_world ["draws", "many"] := ⟨_, _, fun_mk (st := s_l_world) l c k, PySem.W.mg_of X G a, (fun_mk (st := s_l_world) l c k).binds (ps := ["draws", "many"]) fun _ _ _ _ _ _ us hl => match us, hl with | [_, _], _ => rfl⟩
theorem dm_l_last {K : PySem.W.Frag} {h : Heap} {mg : Str → Option Value} (X : K.In h) (G : h.Ns mainGlobals mg) {f : Addr} {oc : Value} {od an : Option Addr} {sl : Array (Option Value)} {kV dc pm cd ct : Value} (a : PySem.W.nsIn K mainGlobals "_law_last" = some (some (.ref f))) (l : K.lookup f = some ⟨oc, od, .func (PySem.W.fnOf "_law_last" "_law_last" (defArgs s_l_last) (defBody s_l_last) (defScope s_l_last) .none kV dc pm an cd ct), sl⟩) (c : PySem.W.codeIn K cd "_law_last" = true) (k : PySem.W.keepIn K (.ref f) = true) : Def K mg "_law_last" s_l_last ["told"] := ⟨_, _, fun_mk (st := s_l_last) l c k, PySem.W.mg_of X G a, (fun_mk (st := s_l_last) l c k).binds (ps := ["told"]) fun _ _ _ _ _ _ us hl => match us, hl with | [_], _ => rfl⟩
theorem dm_l_rivals {K : PySem.W.Frag} {h : Heap} {mg : Str → Option Value} (X : K.In h) (G : h.Ns mainGlobals mg) {f : Addr} {oc : Value} {od an : Option Addr} {sl : Array (Option Value)} {kV dc pm cd ct : Value} (a : PySem.W.nsIn K mainGlobals "_law_rivals" = some (some (.ref f))) (l : K.lookup f = some ⟨oc, od, .func (PySem.W.fnOf "_law_rivals" "_law_rivals" (defArgs s_l_rivals) (defBody s_l_rivals) (defScope s_l_rivals) .none kV dc pm an cd ct), sl⟩) (c : PySem.W.codeIn K cd "_law_rivals" = true) (k : PySem.W.keepIn K (.ref f) = true) : Def K mg "_law_rivals" s_l_rivals ["draws", "world"] := ⟨_, _, fun_mk (st := s_l_rivals) l c k, PySem.W.mg_of X G a, (fun_mk (st := s_l_rivals) l c k).binds (ps := ["draws", "world"]) fun _ _ _ _ _ _ us hl => match us, hl with | [_, _], _ => rfl⟩
theorem dm_l_three_tellings {K : PySem.W.Frag} {h : Heap} {mg : Str → Option Value} (X : K.In h) (G : h.Ns mainGlobals mg) {f : Addr} {oc : Value} {od an : Option Addr} {sl : Array (Option Value)} {kV dc pm cd ct : Value} (a : PySem.W.nsIn K mainGlobals "_law_three_tellings" = some (some (.ref f))) (l : K.lookup f = some ⟨oc, od, .func (PySem.W.fnOf "_law_three_tellings" "_law_three_tellings" (defArgs s_l_three_tellings) (defBody s_l_three_tellings) (defScope s_l_three_tellings) .none kV dc pm an cd ct), sl⟩) (c : PySem.W.codeIn K cd "_law_three_tellings" = true) (k : PySem.W.keepIn K (.ref f) = true) : Def K mg "_law_three_tellings" s_l_three_tellings ["draws", "world"] := ⟨_, _, fun_mk (st := s_l_three_tellings) l c k, PySem.W.mg_of X G a, (fun_mk (st := s_l_three_tellings) l c k).binds (ps := ["draws", "world"]) fun _ _ _ _ _ _ us hl => match us, hl with | [_, _], _ => rfl⟩
theorem dm_l_cut_due {K : PySem.W.Frag} {h : Heap} {mg : Str → Option Value} (X : K.In h) (G : h.Ns mainGlobals mg) {f : Addr} {oc : Value} {od an : Option Addr} {sl : Array (Option Value)} {kV dc pm cd ct : Value} (a : PySem.W.nsIn K mainGlobals "_law_cut_due" = some (some (.ref f))) (l : K.lookup f = some ⟨oc, od, .func (PySem.W.fnOf "_law_cut_due" "_law_cut_due" (defArgs s_l_cut_due) (defBody s_l_cut_due) (defScope s_l_cut_due) .none kV dc pm an cd ct), sl⟩) (c : PySem.W.codeIn K cd "_law_cut_due" = true) (k : PySem.W.keepIn K (.ref f) = true) : Def K mg "_law_cut_due" s_l_cut_due ["schema", "told", "turns"] := ⟨_, _, fun_mk (st := s_l_cut_due) l c k, PySem.W.mg_of X G a, (fun_mk (st := s_l_cut_due) l c k).binds (ps := ["schema", "told", "turns"]) fun _ _ _ _ _ _ us hl => match us, hl with | [_, _, _], _ => rfl⟩
theorem dm_l_rows_due {K : PySem.W.Frag} {h : Heap} {mg : Str → Option Value} (X : K.In h) (G : h.Ns mainGlobals mg) {f : Addr} {oc : Value} {od an : Option Addr} {sl : Array (Option Value)} {kV dc pm cd ct : Value} (a : PySem.W.nsIn K mainGlobals "_law_rows_due" = some (some (.ref f))) (l : K.lookup f = some ⟨oc, od, .func (PySem.W.fnOf "_law_rows_due" "_law_rows_due" (defArgs s_l_rows_due) (defBody s_l_rows_due) (defScope s_l_rows_due) .none kV dc pm an cd ct), sl⟩) (c : PySem.W.codeIn K cd "_law_rows_due" = true) (k : PySem.W.keepIn K (.ref f) = true) : Def K mg "_law_rows_due" s_l_rows_due ["schema", "told", "pair", "moment"] := ⟨_, _, fun_mk (st := s_l_rows_due) l c k, PySem.W.mg_of X G a, (fun_mk (st := s_l_rows_due) l c k).binds (ps := ["schema", "told", "pair", "moment"]) fun _ _ _ _ _ _ us hl => match us, hl with | [_, _, _, _], _ => rfl⟩
theorem dm_l_moments {K : PySem.W.Frag} {h : Heap} {mg : Str → Option Value} (X : K.In h) (G : h.Ns mainGlobals mg) {f : Addr} {oc : Value} {od an : Option Addr} {sl : Array (Option Value)} {kV dc pm cd ct : Value} (a : PySem.W.nsIn K mainGlobals "_law_moments" = some (some (.ref f))) (l : K.lookup f = some ⟨oc, od, .func (PySem.W.fnOf "_law_moments" "_law_moments" (defArgs s_l_moments) (defBody s_l_moments) (defScope s_l_moments) .none kV dc pm an cd ct), sl⟩) (c : PySem.W.codeIn K cd "_law_moments" = true) (k : PySem.W.keepIn K (.ref f) = true) : Def K mg "_law_moments" s_l_moments ["draws", "turns", "begin"] := ⟨_, _, fun_mk (st := s_l_moments) l c k, PySem.W.mg_of X G a, (fun_mk (st := s_l_moments) l c k).binds (ps := ["draws", "turns", "begin"]) fun _ _ _ _ _ _ us hl => match us, hl with | [_, _, _], _ => rfl⟩
theorem dm_l_rows_are_right {K : PySem.W.Frag} {h : Heap} {mg : Str → Option Value} (X : K.In h) (G : h.Ns mainGlobals mg) {f : Addr} {oc : Value} {od an : Option Addr} {sl : Array (Option Value)} {kV dc pm cd ct : Value} (a : PySem.W.nsIn K mainGlobals "_law_rows_are_right" = some (some (.ref f))) (l : K.lookup f = some ⟨oc, od, .func (PySem.W.fnOf "_law_rows_are_right" "_law_rows_are_right" (defArgs s_l_rows_are_right) (defBody s_l_rows_are_right) (defScope s_l_rows_are_right) .none kV dc pm an cd ct), sl⟩) (c : PySem.W.codeIn K cd "_law_rows_are_right" = true) (k : PySem.W.keepIn K (.ref f) = true) : Def K mg "_law_rows_are_right" s_l_rows_are_right ["schema", "told", "moments"] := ⟨_, _, fun_mk (st := s_l_rows_are_right) l c k, PySem.W.mg_of X G a, (fun_mk (st := s_l_rows_are_right) l c k).binds (ps := ["schema", "told", "moments"]) fun _ _ _ _ _ _ us hl => match us, hl with | [_, _, _], _ => rfl⟩
theorem dm_law {K : PySem.W.Frag} {h : Heap} {mg : Str → Option Value} (X : K.In h) (G : h.Ns mainGlobals mg) {f : Addr} {oc : Value} {od an : Option Addr} {sl : Array (Option Value)} {kV dc pm cd ct : Value} (a : PySem.W.nsIn K mainGlobals "law" = some (some (.ref f))) (l : K.lookup f = some ⟨oc, od, .func (PySem.W.fnOf "law" "law" (defArgs s_law) (defBody s_law) (defScope s_law) .none kV dc pm an cd ct), sl⟩) (c : PySem.W.codeIn K cd "law" = true) (k : PySem.W.keepIn K (.ref f) = true) : Def K mg "law" s_law ["script"] := ⟨_, _, fun_mk (st := s_law) l c k, PySem.W.mg_of X G a, (fun_mk (st := s_law) l c k).binds (ps := ["script"]) fun _ _ _ _ _ _ us hl => match us, hl with | [_], _ => rfl⟩
set_option maxHeartbeats 0 in
theorem all_mk {P : Program} {w : World} {K : PySem.W.Frag} {h : Heap} {mg : Str → Option Value} {fa : Addr} {q : Program} (X : K.In h) (G : h.Ns mainGlobals mg) (hfa : mg "law" = some (.ref fa)) (T : ∀ (y : Str) (fy : Addr), ((recsOf q).any fun e => e.name == y) = true → mg y = some (.ref fy) → LamX.OwnTab K fy h)
    {f0 : Addr} {oc0 : Value} {od0 an0 : Option Addr} {sl0 : Array (Option Value)} {kV0 dc0 pm0 cd0 ct0 : Value}
    (a0 : PySem.W.nsIn K mainGlobals "value_key" = some (some (.ref f0))) (l0 : K.lookup f0 = some ⟨oc0, od0, .func (PySem.W.fnOf "value_key" "value_key" (defArgs s_value_key) (defBody s_value_key) (defScope s_value_key) .none kV0 dc0 pm0 an0 cd0 ct0), sl0⟩) (c0 : PySem.W.codeIn K cd0 "value_key" = true) (k0 : PySem.W.keepIn K (.ref f0) = true)
    {f1 : Addr} {oc1 : Value} {od1 an1 : Option Addr} {sl1 : Array (Option Value)} {kV1 dc1 pm1 cd1 ct1 : Value}
    (a1 : PySem.W.nsIn K mainGlobals "row_key" = some (some (.ref f1))) (l1 : K.lookup f1 = some ⟨oc1, od1, .func (PySem.W.fnOf "row_key" "row_key" (defArgs s_row_key) (defBody s_row_key) (defScope s_row_key) .none kV1 dc1 pm1 an1 cd1 ct1), sl1⟩) (c1 : PySem.W.codeIn K cd1 "row_key" = true) (k1 : PySem.W.keepIn K (.ref f1) = true)
    {f2 : Addr} {oc2 : Value} {od2 an2 : Option Addr} {sl2 : Array (Option Value)} {kV2 dc2 pm2 cd2 ct2 : Value}
    (a2 : PySem.W.nsIn K mainGlobals "sorted_rows" = some (some (.ref f2))) (l2 : K.lookup f2 = some ⟨oc2, od2, .func (PySem.W.fnOf "sorted_rows" "sorted_rows" (defArgs s_sorted_rows) (defBody s_sorted_rows) (defScope s_sorted_rows) .none kV2 dc2 pm2 an2 cd2 ct2), sl2⟩) (c2 : PySem.W.codeIn K cd2 "sorted_rows" = true) (k2 : PySem.W.keepIn K (.ref f2) = true)
    {f3 : Addr} {oc3 : Value} {od3 an3 : Option Addr} {sl3 : Array (Option Value)} {kV3 dc3 pm3 cd3 ct3 : Value}
    (a3 : PySem.W.nsIn K mainGlobals "table_of" = some (some (.ref f3))) (l3 : K.lookup f3 = some ⟨oc3, od3, .func (PySem.W.fnOf "table_of" "table_of" (defArgs s_table_of) (defBody s_table_of) (defScope s_table_of) .none kV3 dc3 pm3 an3 cd3 ct3), sl3⟩) (c3 : PySem.W.codeIn K cd3 "table_of" = true) (k3 : PySem.W.keepIn K (.ref f3) = true)
    {f4 : Addr} {oc4 : Value} {od4 an4 : Option Addr} {sl4 : Array (Option Value)} {kV4 dc4 pm4 cd4 ct4 : Value}
    (a4 : PySem.W.nsIn K mainGlobals "key_of" = some (some (.ref f4))) (l4 : K.lookup f4 = some ⟨oc4, od4, .func (PySem.W.fnOf "key_of" "key_of" (defArgs s_key_of) (defBody s_key_of) (defScope s_key_of) .none kV4 dc4 pm4 an4 cd4 ct4), sl4⟩) (c4 : PySem.W.codeIn K cd4 "key_of" = true) (k4 : PySem.W.keepIn K (.ref f4) = true)
    {f5 : Addr} {oc5 : Value} {od5 an5 : Option Addr} {sl5 : Array (Option Value)} {kV5 dc5 pm5 cd5 ct5 : Value}
    (a5 : PySem.W.nsIn K mainGlobals "place_of" = some (some (.ref f5))) (l5 : K.lookup f5 = some ⟨oc5, od5, .func (PySem.W.fnOf "place_of" "place_of" (defArgs s_place_of) (defBody s_place_of) (defScope s_place_of) .none kV5 dc5 pm5 an5 cd5 ct5), sl5⟩) (c5 : PySem.W.codeIn K cd5 "place_of" = true) (k5 : PySem.W.keepIn K (.ref f5) = true)
    {f6 : Addr} {oc6 : Value} {od6 an6 : Option Addr} {sl6 : Array (Option Value)} {kV6 dc6 pm6 cd6 ct6 : Value}
    (a6 : PySem.W.nsIn K mainGlobals "later_end" = some (some (.ref f6))) (l6 : K.lookup f6 = some ⟨oc6, od6, .func (PySem.W.fnOf "later_end" "later_end" (defArgs s_later_end) (defBody s_later_end) (defScope s_later_end) .none kV6 dc6 pm6 an6 cd6 ct6), sl6⟩) (c6 : PySem.W.codeIn K cd6 "later_end" = true) (k6 : PySem.W.keepIn K (.ref f6) = true)
    {f7 : Addr} {oc7 : Value} {od7 an7 : Option Addr} {sl7 : Array (Option Value)} {kV7 dc7 pm7 cd7 ct7 : Value}
    (a7 : PySem.W.nsIn K mainGlobals "earlier_end" = some (some (.ref f7))) (l7 : K.lookup f7 = some ⟨oc7, od7, .func (PySem.W.fnOf "earlier_end" "earlier_end" (defArgs s_earlier_end) (defBody s_earlier_end) (defScope s_earlier_end) .none kV7 dc7 pm7 an7 cd7 ct7), sl7⟩) (c7 : PySem.W.codeIn K cd7 "earlier_end" = true) (k7 : PySem.W.keepIn K (.ref f7) = true)
    {f8 : Addr} {oc8 : Value} {od8 an8 : Option Addr} {sl8 : Array (Option Value)} {kV8 dc8 pm8 ct8 : Value} {cb tb : Addr} {ce : Value} {cdd : Option Addr} {cvs : Array Value} {csl : Array (Option Value)}
    (a8 : PySem.W.nsIn K mainGlobals "span_of" = some (some (.ref f8))) (l8 : K.lookup f8 = some ⟨oc8, od8, .func (PySem.W.fnOf "span_of" "span_of" (defArgs s_span_of) (defBody s_span_of) (defScope s_span_of) .none kV8 dc8 pm8 an8 (.ref cb) ct8), sl8⟩) (c8 : PySem.W.codeIn K (.ref cb) "span_of" = true) (k8 : PySem.W.keepIn K (.ref f8) = true)
    (r0 : K.lookup cb = some ⟨ce, cdd, .fields cvs, csl⟩) (r1 : cvs[11]? = some (.ref tb)) (r2 : codeFields ce cvs = true) (r3 : K.lookup tb = none) (r4 : ((recsOf q).any fun e => e.name == ("span_of" : Str)) = true)
    {f9 : Addr} {oc9 : Value} {od9 an9 : Option Addr} {sl9 : Array (Option Value)} {kV9 dc9 pm9 cd9 ct9 : Value}
    (a9 : PySem.W.nsIn K mainGlobals "has" = some (some (.ref f9))) (l9 : K.lookup f9 = some ⟨oc9, od9, .func (PySem.W.fnOf "has" "has" (defArgs s_has) (defBody s_has) (defScope s_has) .none kV9 dc9 pm9 an9 cd9 ct9), sl9⟩) (c9 : PySem.W.codeIn K cd9 "has" = true) (k9 : PySem.W.keepIn K (.ref f9) = true)
    {f10 : Addr} {oc10 : Value} {od10 an10 : Option Addr} {sl10 : Array (Option Value)} {kV10 dc10 pm10 cd10 ct10 : Value}
    (a10 : PySem.W.nsIn K mainGlobals "met" = some (some (.ref f10))) (l10 : K.lookup f10 = some ⟨oc10, od10, .func (PySem.W.fnOf "met" "met" (defArgs s_met) (defBody s_met) (defScope s_met) .none kV10 dc10 pm10 an10 cd10 ct10), sl10⟩) (c10 : PySem.W.codeIn K cd10 "met" = true) (k10 : PySem.W.keepIn K (.ref f10) = true)
    {f11 : Addr} {oc11 : Value} {od11 an11 : Option Addr} {sl11 : Array (Option Value)} {kV11 dc11 pm11 cd11 ct11 : Value}
    (a11 : PySem.W.nsIn K mainGlobals "rest" = some (some (.ref f11))) (l11 : K.lookup f11 = some ⟨oc11, od11, .func (PySem.W.fnOf "rest" "rest" (defArgs s_rest) (defBody s_rest) (defScope s_rest) .none kV11 dc11 pm11 an11 cd11 ct11), sl11⟩) (c11 : PySem.W.codeIn K cd11 "rest" = true) (k11 : PySem.W.keepIn K (.ref f11) = true)
    {f12 : Addr} {oc12 : Value} {od12 an12 : Option Addr} {sl12 : Array (Option Value)} {kV12 dc12 pm12 cd12 ct12 : Value}
    (a12 : PySem.W.nsIn K mainGlobals "without" = some (some (.ref f12))) (l12 : K.lookup f12 = some ⟨oc12, od12, .func (PySem.W.fnOf "without" "without" (defArgs s_without) (defBody s_without) (defScope s_without) .none kV12 dc12 pm12 an12 cd12 ct12), sl12⟩) (c12 : PySem.W.codeIn K cd12 "without" = true) (k12 : PySem.W.keepIn K (.ref f12) = true)
    {f13 : Addr} {oc13 : Value} {od13 an13 : Option Addr} {sl13 : Array (Option Value)} {kV13 dc13 pm13 cd13 ct13 : Value}
    (a13 : PySem.W.nsIn K mainGlobals "verdicts_by_place" = some (some (.ref f13))) (l13 : K.lookup f13 = some ⟨oc13, od13, .func (PySem.W.fnOf "verdicts_by_place" "verdicts_by_place" (defArgs s_verdicts_by_place) (defBody s_verdicts_by_place) (defScope s_verdicts_by_place) .none kV13 dc13 pm13 an13 cd13 ct13), sl13⟩) (c13 : PySem.W.codeIn K cd13 "verdicts_by_place" = true) (k13 : PySem.W.keepIn K (.ref f13) = true)
    {f14 : Addr} {oc14 : Value} {od14 an14 : Option Addr} {sl14 : Array (Option Value)} {kV14 dc14 pm14 cd14 ct14 : Value}
    (a14 : PySem.W.nsIn K mainGlobals "cut_span" = some (some (.ref f14))) (l14 : K.lookup f14 = some ⟨oc14, od14, .func (PySem.W.fnOf "cut_span" "cut_span" (defArgs s_cut_span) (defBody s_cut_span) (defScope s_cut_span) .none kV14 dc14 pm14 an14 cd14 ct14), sl14⟩) (c14 : PySem.W.codeIn K cd14 "cut_span" = true) (k14 : PySem.W.keepIn K (.ref f14) = true)
    {f15 : Addr} {oc15 : Value} {od15 an15 : Option Addr} {sl15 : Array (Option Value)} {kV15 dc15 pm15 cd15 ct15 : Value}
    (a15 : PySem.W.nsIn K mainGlobals "cut_reports" = some (some (.ref f15))) (l15 : K.lookup f15 = some ⟨oc15, od15, .func (PySem.W.fnOf "cut_reports" "cut_reports" (defArgs s_cut_reports) (defBody s_cut_reports) (defScope s_cut_reports) .none kV15 dc15 pm15 an15 cd15 ct15), sl15⟩) (c15 : PySem.W.codeIn K cd15 "cut_reports" = true) (k15 : PySem.W.keepIn K (.ref f15) = true)
    {f16 : Addr} {oc16 : Value} {od16 an16 : Option Addr} {sl16 : Array (Option Value)} {kV16 dc16 pm16 cd16 ct16 : Value}
    (a16 : PySem.W.nsIn K mainGlobals "told_rows" = some (some (.ref f16))) (l16 : K.lookup f16 = some ⟨oc16, od16, .func (PySem.W.fnOf "told_rows" "told_rows" (defArgs s_told_rows) (defBody s_told_rows) (defScope s_told_rows) .none kV16 dc16 pm16 an16 cd16 ct16), sl16⟩) (c16 : PySem.W.codeIn K cd16 "told_rows" = true) (k16 : PySem.W.keepIn K (.ref f16) = true)
    {f17 : Addr} {oc17 : Value} {od17 an17 : Option Addr} {sl17 : Array (Option Value)} {kV17 dc17 pm17 cd17 ct17 : Value}
    (a17 : PySem.W.nsIn K mainGlobals "_law_draws" = some (some (.ref f17))) (l17 : K.lookup f17 = some ⟨oc17, od17, .func (PySem.W.fnOf "_law_draws" "_law_draws" (defArgs s_l_draws) (defBody s_l_draws) (defScope s_l_draws) .none kV17 dc17 pm17 an17 cd17 ct17), sl17⟩) (c17 : PySem.W.codeIn K cd17 "_law_draws" = true) (k17 : PySem.W.keepIn K (.ref f17) = true)
    {f18 : Addr} {oc18 : Value} {od18 an18 : Option Addr} {sl18 : Array (Option Value)} {kV18 dc18 pm18 cd18 ct18 : Value}
    (a18 : PySem.W.nsIn K mainGlobals "_law_take" = some (some (.ref f18))) (l18 : K.lookup f18 = some ⟨oc18, od18, .func (PySem.W.fnOf "_law_take" "_law_take" (defArgs s_l_take) (defBody s_l_take) (defScope s_l_take) .none kV18 dc18 pm18 an18 cd18 ct18), sl18⟩) (c18 : PySem.W.codeIn K cd18 "_law_take" = true) (k18 : PySem.W.keepIn K (.ref f18) = true)
    {f19 : Addr} {oc19 : Value} {od19 an19 : Option Addr} {sl19 : Array (Option Value)} {kV19 dc19 pm19 cd19 ct19 : Value}
    (a19 : PySem.W.nsIn K mainGlobals "_law_pick" = some (some (.ref f19))) (l19 : K.lookup f19 = some ⟨oc19, od19, .func (PySem.W.fnOf "_law_pick" "_law_pick" (defArgs s_l_pick) (defBody s_l_pick) (defScope s_l_pick) .none kV19 dc19 pm19 an19 cd19 ct19), sl19⟩) (c19 : PySem.W.codeIn K cd19 "_law_pick" = true) (k19 : PySem.W.keepIn K (.ref f19) = true)
    {f20 : Addr} {oc20 : Value} {od20 an20 : Option Addr} {sl20 : Array (Option Value)} {kV20 dc20 pm20 cd20 ct20 : Value}
    (a20 : PySem.W.nsIn K mainGlobals "_law_same" = some (some (.ref f20))) (l20 : K.lookup f20 = some ⟨oc20, od20, .func (PySem.W.fnOf "_law_same" "_law_same" (defArgs s_l_same) (defBody s_l_same) (defScope s_l_same) .none kV20 dc20 pm20 an20 cd20 ct20), sl20⟩) (c20 : PySem.W.codeIn K cd20 "_law_same" = true) (k20 : PySem.W.keepIn K (.ref f20) = true)
    {f21 : Addr} {oc21 : Value} {od21 an21 : Option Addr} {sl21 : Array (Option Value)} {kV21 dc21 pm21 cd21 ct21 : Value}
    (a21 : PySem.W.nsIn K mainGlobals "_law_words" = some (some (.ref f21))) (l21 : K.lookup f21 = some ⟨oc21, od21, .func (PySem.W.fnOf "_law_words" "_law_words" (defArgs s_l_words) (defBody s_l_words) (defScope s_l_words) .none kV21 dc21 pm21 an21 cd21 ct21), sl21⟩) (c21 : PySem.W.codeIn K cd21 "_law_words" = true) (k21 : PySem.W.keepIn K (.ref f21) = true)
    {f22 : Addr} {oc22 : Value} {od22 an22 : Option Addr} {sl22 : Array (Option Value)} {kV22 dc22 pm22 cd22 ct22 : Value}
    (a22 : PySem.W.nsIn K mainGlobals "_law_value_key" = some (some (.ref f22))) (l22 : K.lookup f22 = some ⟨oc22, od22, .func (PySem.W.fnOf "_law_value_key" "_law_value_key" (defArgs s_l_value_key) (defBody s_l_value_key) (defScope s_l_value_key) .none kV22 dc22 pm22 an22 cd22 ct22), sl22⟩) (c22 : PySem.W.codeIn K cd22 "_law_value_key" = true) (k22 : PySem.W.keepIn K (.ref f22) = true)
    {f23 : Addr} {oc23 : Value} {od23 an23 : Option Addr} {sl23 : Array (Option Value)} {kV23 dc23 pm23 cd23 ct23 : Value}
    (a23 : PySem.W.nsIn K mainGlobals "_law_row_key" = some (some (.ref f23))) (l23 : K.lookup f23 = some ⟨oc23, od23, .func (PySem.W.fnOf "_law_row_key" "_law_row_key" (defArgs s_l_row_key) (defBody s_l_row_key) (defScope s_l_row_key) .none kV23 dc23 pm23 an23 cd23 ct23), sl23⟩) (c23 : PySem.W.codeIn K cd23 "_law_row_key" = true) (k23 : PySem.W.keepIn K (.ref f23) = true)
    {f24 : Addr} {oc24 : Value} {od24 an24 : Option Addr} {sl24 : Array (Option Value)} {kV24 dc24 pm24 cd24 ct24 : Value}
    (a24 : PySem.W.nsIn K mainGlobals "_law_sorted_rows" = some (some (.ref f24))) (l24 : K.lookup f24 = some ⟨oc24, od24, .func (PySem.W.fnOf "_law_sorted_rows" "_law_sorted_rows" (defArgs s_l_sorted_rows) (defBody s_l_sorted_rows) (defScope s_l_sorted_rows) .none kV24 dc24 pm24 an24 cd24 ct24), sl24⟩) (c24 : PySem.W.codeIn K cd24 "_law_sorted_rows" = true) (k24 : PySem.W.keepIn K (.ref f24) = true)
    {f25 : Addr} {oc25 : Value} {od25 an25 : Option Addr} {sl25 : Array (Option Value)} {kV25 dc25 pm25 cd25 ct25 : Value}
    (a25 : PySem.W.nsIn K mainGlobals "_law_values" = some (some (.ref f25))) (l25 : K.lookup f25 = some ⟨oc25, od25, .func (PySem.W.fnOf "_law_values" "_law_values" (defArgs s_l_values) (defBody s_l_values) (defScope s_l_values) .none kV25 dc25 pm25 an25 cd25 ct25), sl25⟩) (c25 : PySem.W.codeIn K cd25 "_law_values" = true) (k25 : PySem.W.keepIn K (.ref f25) = true)
    {f26 : Addr} {oc26 : Value} {od26 an26 : Option Addr} {sl26 : Array (Option Value)} {kV26 dc26 pm26 cd26 ct26 : Value}
    (a26 : PySem.W.nsIn K mainGlobals "_law_schema" = some (some (.ref f26))) (l26 : K.lookup f26 = some ⟨oc26, od26, .func (PySem.W.fnOf "_law_schema" "_law_schema" (defArgs s_l_schema) (defBody s_l_schema) (defScope s_l_schema) .none kV26 dc26 pm26 an26 cd26 ct26), sl26⟩) (c26 : PySem.W.codeIn K cd26 "_law_schema" = true) (k26 : PySem.W.keepIn K (.ref f26) = true)
    {f27 : Addr} {oc27 : Value} {od27 an27 : Option Addr} {sl27 : Array (Option Value)} {kV27 dc27 pm27 cd27 ct27 : Value}
    (a27 : PySem.W.nsIn K mainGlobals "_law_span" = some (some (.ref f27))) (l27 : K.lookup f27 = some ⟨oc27, od27, .func (PySem.W.fnOf "_law_span" "_law_span" (defArgs s_l_span) (defBody s_l_span) (defScope s_l_span) .none kV27 dc27 pm27 an27 cd27 ct27), sl27⟩) (c27 : PySem.W.codeIn K cd27 "_law_span" = true) (k27 : PySem.W.keepIn K (.ref f27) = true)
    {f28 : Addr} {oc28 : Value} {od28 an28 : Option Addr} {sl28 : Array (Option Value)} {kV28 dc28 pm28 cd28 ct28 : Value}
    (a28 : PySem.W.nsIn K mainGlobals "_law_has" = some (some (.ref f28))) (l28 : K.lookup f28 = some ⟨oc28, od28, .func (PySem.W.fnOf "_law_has" "_law_has" (defArgs s_l_has) (defBody s_l_has) (defScope s_l_has) .none kV28 dc28 pm28 an28 cd28 ct28), sl28⟩) (c28 : PySem.W.codeIn K cd28 "_law_has" = true) (k28 : PySem.W.keepIn K (.ref f28) = true)
    {f29 : Addr} {oc29 : Value} {od29 an29 : Option Addr} {sl29 : Array (Option Value)} {kV29 dc29 pm29 cd29 ct29 : Value}
    (a29 : PySem.W.nsIn K mainGlobals "_law_meet" = some (some (.ref f29))) (l29 : K.lookup f29 = some ⟨oc29, od29, .func (PySem.W.fnOf "_law_meet" "_law_meet" (defArgs s_l_meet) (defBody s_l_meet) (defScope s_l_meet) .none kV29 dc29 pm29 an29 cd29 ct29), sl29⟩) (c29 : PySem.W.codeIn K cd29 "_law_meet" = true) (k29 : PySem.W.keepIn K (.ref f29) = true)
    {f30 : Addr} {oc30 : Value} {od30 an30 : Option Addr} {sl30 : Array (Option Value)} {kV30 dc30 pm30 cd30 ct30 : Value}
    (a30 : PySem.W.nsIn K mainGlobals "_law_key_of" = some (some (.ref f30))) (l30 : K.lookup f30 = some ⟨oc30, od30, .func (PySem.W.fnOf "_law_key_of" "_law_key_of" (defArgs s_l_key_of) (defBody s_l_key_of) (defScope s_l_key_of) .none kV30 dc30 pm30 an30 cd30 ct30), sl30⟩) (c30 : PySem.W.codeIn K cd30 "_law_key_of" = true) (k30 : PySem.W.keepIn K (.ref f30) = true)
    {f31 : Addr} {oc31 : Value} {od31 an31 : Option Addr} {sl31 : Array (Option Value)} {kV31 dc31 pm31 cd31 ct31 : Value}
    (a31 : PySem.W.nsIn K mainGlobals "_law_drawn_row" = some (some (.ref f31))) (l31 : K.lookup f31 = some ⟨oc31, od31, .func (PySem.W.fnOf "_law_drawn_row" "_law_drawn_row" (defArgs s_l_drawn_row) (defBody s_l_drawn_row) (defScope s_l_drawn_row) .none kV31 dc31 pm31 an31 cd31 ct31), sl31⟩) (c31 : PySem.W.codeIn K cd31 "_law_drawn_row" = true) (k31 : PySem.W.keepIn K (.ref f31) = true)
    {f32 : Addr} {oc32 : Value} {od32 an32 : Option Addr} {sl32 : Array (Option Value)} {kV32 dc32 pm32 cd32 ct32 : Value}
    (a32 : PySem.W.nsIn K mainGlobals "_law_reports" = some (some (.ref f32))) (l32 : K.lookup f32 = some ⟨oc32, od32, .func (PySem.W.fnOf "_law_reports" "_law_reports" (defArgs s_l_reports) (defBody s_l_reports) (defScope s_l_reports) .none kV32 dc32 pm32 an32 cd32 ct32), sl32⟩) (c32 : PySem.W.codeIn K cd32 "_law_reports" = true) (k32 : PySem.W.keepIn K (.ref f32) = true)
    {f33 : Addr} {oc33 : Value} {od33 an33 : Option Addr} {sl33 : Array (Option Value)} {kV33 dc33 pm33 cd33 ct33 : Value}
    (a33 : PySem.W.nsIn K mainGlobals "_law_clash" = some (some (.ref f33))) (l33 : K.lookup f33 = some ⟨oc33, od33, .func (PySem.W.fnOf "_law_clash" "_law_clash" (defArgs s_l_clash) (defBody s_l_clash) (defScope s_l_clash) .none kV33 dc33 pm33 an33 cd33 ct33), sl33⟩) (c33 : PySem.W.codeIn K cd33 "_law_clash" = true) (k33 : PySem.W.keepIn K (.ref f33) = true)
    {f34 : Addr} {oc34 : Value} {od34 an34 : Option Addr} {sl34 : Array (Option Value)} {kV34 dc34 pm34 cd34 ct34 : Value}
    (a34 : PySem.W.nsIn K mainGlobals "_law_number" = some (some (.ref f34))) (l34 : K.lookup f34 = some ⟨oc34, od34, .func (PySem.W.fnOf "_law_number" "_law_number" (defArgs s_l_number) (defBody s_l_number) (defScope s_l_number) .none kV34 dc34 pm34 an34 cd34 ct34), sl34⟩) (c34 : PySem.W.codeIn K cd34 "_law_number" = true) (k34 : PySem.W.keepIn K (.ref f34) = true)
    {f35 : Addr} {oc35 : Value} {od35 an35 : Option Addr} {sl35 : Array (Option Value)} {kV35 dc35 pm35 cd35 ct35 : Value}
    (a35 : PySem.W.nsIn K mainGlobals "_law_trust" = some (some (.ref f35))) (l35 : K.lookup f35 = some ⟨oc35, od35, .func (PySem.W.fnOf "_law_trust" "_law_trust" (defArgs s_l_trust) (defBody s_l_trust) (defScope s_l_trust) .none kV35 dc35 pm35 an35 cd35 ct35), sl35⟩) (c35 : PySem.W.codeIn K cd35 "_law_trust" = true) (k35 : PySem.W.keepIn K (.ref f35) = true)
    {f36 : Addr} {oc36 : Value} {od36 an36 : Option Addr} {sl36 : Array (Option Value)} {kV36 dc36 pm36 cd36 ct36 : Value}
    (a36 : PySem.W.nsIn K mainGlobals "_law_told" = some (some (.ref f36))) (l36 : K.lookup f36 = some ⟨oc36, od36, .func (PySem.W.fnOf "_law_told" "_law_told" (defArgs s_l_told) (defBody s_l_told) (defScope s_l_told) .none kV36 dc36 pm36 an36 cd36 ct36), sl36⟩) (c36 : PySem.W.codeIn K cd36 "_law_told" = true) (k36 : PySem.W.keepIn K (.ref f36) = true)
    {f37 : Addr} {oc37 : Value} {od37 an37 : Option Addr} {sl37 : Array (Option Value)} {kV37 dc37 pm37 cd37 ct37 : Value}
    (a37 : PySem.W.nsIn K mainGlobals "_law_is_cut" = some (some (.ref f37))) (l37 : K.lookup f37 = some ⟨oc37, od37, .func (PySem.W.fnOf "_law_is_cut" "_law_is_cut" (defArgs s_l_is_cut) (defBody s_l_is_cut) (defScope s_l_is_cut) .none kV37 dc37 pm37 an37 cd37 ct37), sl37⟩) (c37 : PySem.W.codeIn K cd37 "_law_is_cut" = true) (k37 : PySem.W.keepIn K (.ref f37) = true)
    {f38 : Addr} {oc38 : Value} {od38 an38 : Option Addr} {sl38 : Array (Option Value)} {kV38 dc38 pm38 cd38 ct38 : Value}
    (a38 : PySem.W.nsIn K mainGlobals "_law_telling" = some (some (.ref f38))) (l38 : K.lookup f38 = some ⟨oc38, od38, .func (PySem.W.fnOf "_law_telling" "_law_telling" (defArgs s_l_telling) (defBody s_l_telling) (defScope s_l_telling) .none kV38 dc38 pm38 an38 cd38 ct38), sl38⟩) (c38 : PySem.W.codeIn K cd38 "_law_telling" = true) (k38 : PySem.W.keepIn K (.ref f38) = true)
    {f39 : Addr} {oc39 : Value} {od39 an39 : Option Addr} {sl39 : Array (Option Value)} {kV39 dc39 pm39 cd39 ct39 : Value}
    (a39 : PySem.W.nsIn K mainGlobals "_law_turns" = some (some (.ref f39))) (l39 : K.lookup f39 = some ⟨oc39, od39, .func (PySem.W.fnOf "_law_turns" "_law_turns" (defArgs s_l_turns) (defBody s_l_turns) (defScope s_l_turns) .none kV39 dc39 pm39 an39 cd39 ct39), sl39⟩) (c39 : PySem.W.codeIn K cd39 "_law_turns" = true) (k39 : PySem.W.keepIn K (.ref f39) = true)
    {f40 : Addr} {oc40 : Value} {od40 an40 : Option Addr} {sl40 : Array (Option Value)} {kV40 dc40 pm40 cd40 ct40 : Value}
    (a40 : PySem.W.nsIn K mainGlobals "_law_place_key" = some (some (.ref f40))) (l40 : K.lookup f40 = some ⟨oc40, od40, .func (PySem.W.fnOf "_law_place_key" "_law_place_key" (defArgs s_l_place_key) (defBody s_l_place_key) (defScope s_l_place_key) .none kV40 dc40 pm40 an40 cd40 ct40), sl40⟩) (c40 : PySem.W.codeIn K cd40 "_law_place_key" = true) (k40 : PySem.W.keepIn K (.ref f40) = true)
    {f41 : Addr} {oc41 : Value} {od41 an41 : Option Addr} {sl41 : Array (Option Value)} {kV41 dc41 pm41 cd41 ct41 : Value}
    (a41 : PySem.W.nsIn K mainGlobals "_law_keys" = some (some (.ref f41))) (l41 : K.lookup f41 = some ⟨oc41, od41, .func (PySem.W.fnOf "_law_keys" "_law_keys" (defArgs s_l_keys) (defBody s_l_keys) (defScope s_l_keys) .none kV41 dc41 pm41 an41 cd41 ct41), sl41⟩) (c41 : PySem.W.codeIn K cd41 "_law_keys" = true) (k41 : PySem.W.keepIn K (.ref f41) = true)
    {f42 : Addr} {oc42 : Value} {od42 an42 : Option Addr} {sl42 : Array (Option Value)} {kV42 dc42 pm42 cd42 ct42 : Value}
    (a42 : PySem.W.nsIn K mainGlobals "_law_span_by" = some (some (.ref f42))) (l42 : K.lookup f42 = some ⟨oc42, od42, .func (PySem.W.fnOf "_law_span_by" "_law_span_by" (defArgs s_l_span_by) (defBody s_l_span_by) (defScope s_l_span_by) .none kV42 dc42 pm42 an42 cd42 ct42), sl42⟩) (c42 : PySem.W.codeIn K cd42 "_law_span_by" = true) (k42 : PySem.W.keepIn K (.ref f42) = true)
    {f43 : Addr} {oc43 : Value} {od43 an43 : Option Addr} {sl43 : Array (Option Value)} {kV43 dc43 pm43 cd43 ct43 : Value}
    (a43 : PySem.W.nsIn K mainGlobals "_law_scale" = some (some (.ref f43))) (l43 : K.lookup f43 = some ⟨oc43, od43, .func (PySem.W.fnOf "_law_scale" "_law_scale" (defArgs s_l_scale) (defBody s_l_scale) (defScope s_l_scale) .none kV43 dc43 pm43 an43 cd43 ct43), sl43⟩) (c43 : PySem.W.codeIn K cd43 "_law_scale" = true) (k43 : PySem.W.keepIn K (.ref f43) = true)
    {f44 : Addr} {oc44 : Value} {od44 an44 : Option Addr} {sl44 : Array (Option Value)} {kV44 dc44 pm44 cd44 ct44 : Value}
    (a44 : PySem.W.nsIn K mainGlobals "_law_far" = some (some (.ref f44))) (l44 : K.lookup f44 = some ⟨oc44, od44, .func (PySem.W.fnOf "_law_far" "_law_far" (defArgs s_l_far) (defBody s_l_far) (defScope s_l_far) .none kV44 dc44 pm44 an44 cd44 ct44), sl44⟩) (c44 : PySem.W.codeIn K cd44 "_law_far" = true) (k44 : PySem.W.keepIn K (.ref f44) = true)
    {f45 : Addr} {oc45 : Value} {od45 an45 : Option Addr} {sl45 : Array (Option Value)} {kV45 dc45 pm45 cd45 ct45 : Value}
    (a45 : PySem.W.nsIn K mainGlobals "_law_world" = some (some (.ref f45))) (l45 : K.lookup f45 = some ⟨oc45, od45, .func (PySem.W.fnOf "_law_world" "_law_world" (defArgs s_l_world) (defBody s_l_world) (defScope s_l_world) .none kV45 dc45 pm45 an45 cd45 ct45), sl45⟩) (c45 : PySem.W.codeIn K cd45 "_law_world" = true) (k45 : PySem.W.keepIn K (.ref f45) = true)
    {f46 : Addr} {oc46 : Value} {od46 an46 : Option Addr} {sl46 : Array (Option Value)} {kV46 dc46 pm46 cd46 ct46 : Value}
    (a46 : PySem.W.nsIn K mainGlobals "_law_last" = some (some (.ref f46))) (l46 : K.lookup f46 = some ⟨oc46, od46, .func (PySem.W.fnOf "_law_last" "_law_last" (defArgs s_l_last) (defBody s_l_last) (defScope s_l_last) .none kV46 dc46 pm46 an46 cd46 ct46), sl46⟩) (c46 : PySem.W.codeIn K cd46 "_law_last" = true) (k46 : PySem.W.keepIn K (.ref f46) = true)
    {f47 : Addr} {oc47 : Value} {od47 an47 : Option Addr} {sl47 : Array (Option Value)} {kV47 dc47 pm47 cd47 ct47 : Value}
    (a47 : PySem.W.nsIn K mainGlobals "_law_rivals" = some (some (.ref f47))) (l47 : K.lookup f47 = some ⟨oc47, od47, .func (PySem.W.fnOf "_law_rivals" "_law_rivals" (defArgs s_l_rivals) (defBody s_l_rivals) (defScope s_l_rivals) .none kV47 dc47 pm47 an47 cd47 ct47), sl47⟩) (c47 : PySem.W.codeIn K cd47 "_law_rivals" = true) (k47 : PySem.W.keepIn K (.ref f47) = true)
    {f48 : Addr} {oc48 : Value} {od48 an48 : Option Addr} {sl48 : Array (Option Value)} {kV48 dc48 pm48 cd48 ct48 : Value}
    (a48 : PySem.W.nsIn K mainGlobals "_law_three_tellings" = some (some (.ref f48))) (l48 : K.lookup f48 = some ⟨oc48, od48, .func (PySem.W.fnOf "_law_three_tellings" "_law_three_tellings" (defArgs s_l_three_tellings) (defBody s_l_three_tellings) (defScope s_l_three_tellings) .none kV48 dc48 pm48 an48 cd48 ct48), sl48⟩) (c48 : PySem.W.codeIn K cd48 "_law_three_tellings" = true) (k48 : PySem.W.keepIn K (.ref f48) = true)
    {f49 : Addr} {oc49 : Value} {od49 an49 : Option Addr} {sl49 : Array (Option Value)} {kV49 dc49 pm49 cd49 ct49 : Value}
    (a49 : PySem.W.nsIn K mainGlobals "_law_cut_due" = some (some (.ref f49))) (l49 : K.lookup f49 = some ⟨oc49, od49, .func (PySem.W.fnOf "_law_cut_due" "_law_cut_due" (defArgs s_l_cut_due) (defBody s_l_cut_due) (defScope s_l_cut_due) .none kV49 dc49 pm49 an49 cd49 ct49), sl49⟩) (c49 : PySem.W.codeIn K cd49 "_law_cut_due" = true) (k49 : PySem.W.keepIn K (.ref f49) = true)
    {f50 : Addr} {oc50 : Value} {od50 an50 : Option Addr} {sl50 : Array (Option Value)} {kV50 dc50 pm50 cd50 ct50 : Value}
    (a50 : PySem.W.nsIn K mainGlobals "_law_rows_due" = some (some (.ref f50))) (l50 : K.lookup f50 = some ⟨oc50, od50, .func (PySem.W.fnOf "_law_rows_due" "_law_rows_due" (defArgs s_l_rows_due) (defBody s_l_rows_due) (defScope s_l_rows_due) .none kV50 dc50 pm50 an50 cd50 ct50), sl50⟩) (c50 : PySem.W.codeIn K cd50 "_law_rows_due" = true) (k50 : PySem.W.keepIn K (.ref f50) = true)
    {f51 : Addr} {oc51 : Value} {od51 an51 : Option Addr} {sl51 : Array (Option Value)} {kV51 dc51 pm51 cd51 ct51 : Value}
    (a51 : PySem.W.nsIn K mainGlobals "_law_moments" = some (some (.ref f51))) (l51 : K.lookup f51 = some ⟨oc51, od51, .func (PySem.W.fnOf "_law_moments" "_law_moments" (defArgs s_l_moments) (defBody s_l_moments) (defScope s_l_moments) .none kV51 dc51 pm51 an51 cd51 ct51), sl51⟩) (c51 : PySem.W.codeIn K cd51 "_law_moments" = true) (k51 : PySem.W.keepIn K (.ref f51) = true)
    {f52 : Addr} {oc52 : Value} {od52 an52 : Option Addr} {sl52 : Array (Option Value)} {kV52 dc52 pm52 cd52 ct52 : Value}
    (a52 : PySem.W.nsIn K mainGlobals "_law_rows_are_right" = some (some (.ref f52))) (l52 : K.lookup f52 = some ⟨oc52, od52, .func (PySem.W.fnOf "_law_rows_are_right" "_law_rows_are_right" (defArgs s_l_rows_are_right) (defBody s_l_rows_are_right) (defScope s_l_rows_are_right) .none kV52 dc52 pm52 an52 cd52 ct52), sl52⟩) (c52 : PySem.W.codeIn K cd52 "_law_rows_are_right" = true) (k52 : PySem.W.keepIn K (.ref f52) = true)
    {f53 : Addr} {oc53 : Value} {od53 an53 : Option Addr} {sl53 : Array (Option Value)} {kV53 dc53 pm53 cd53 ct53 : Value}
    (a53 : PySem.W.nsIn K mainGlobals "law" = some (some (.ref f53))) (l53 : K.lookup f53 = some ⟨oc53, od53, .func (PySem.W.fnOf "law" "law" (defArgs s_law) (defBody s_law) (defScope s_law) .none kV53 dc53 pm53 an53 cd53 ct53), sl53⟩) (c53 : PySem.W.codeIn K cd53 "law" = true) (k53 : PySem.W.keepIn K (.ref f53) = true)
    (z_bool : PySem.W.nsIn K mainGlobals "bool" = some none)    (z_int : PySem.W.nsIn K mainGlobals "int" = some none)    (z_isinstance : PySem.W.nsIn K mainGlobals "isinstance" = some none)    (z_len : PySem.W.nsIn K mainGlobals "len" = some none)    (z_list : PySem.W.nsIn K mainGlobals "list" = some none)    (z_max : PySem.W.nsIn K mainGlobals "max" = some none)    (z_min : PySem.W.nsIn K mainGlobals "min" = some none)    (z_range : PySem.W.nsIn K mainGlobals "range" = some none)    (z_set : PySem.W.nsIn K mainGlobals "set" = some none)    (z_sorted : PySem.W.nsIn K mainGlobals "sorted" = some none)    (z_str : PySem.W.nsIn K mainGlobals "str" = some none)    (z_tuple : PySem.W.nsIn K mainGlobals "tuple" = some none) :
    ∃ (fd : FuncData) (cs : List (Addr × Addr)) (sp : Sp), (∀ p ∈ cs, h.get? p.2 = some { cls := .none, data := .fields #[] }) ∧ (∀ p ∈ cs, K.lookup p.2 = none) ∧ (∀ p ∈ cs, PySem.W.CodeHd h p.1 p.2) ∧ (∀ (s : Shared) (u : Value), BindsTo s fd ⟨[u], []⟩ [("script", u)]) ∧
    (∀ (H : Hp) (a : Addr) (ns : List Int), ns.length ≤ 63 → (∀ z ∈ ns, Builtin.Int.intBits z ≤ 1048576) → (∀ p ∈ cs, H p.2 = some (.tbl #[])) → SqL K H a (ns.map V.int) → sp [.ref a] H (fun v _ => v = .bl true) fun _ _ _ => False) ∧
    ∀ base : Heap, K.In base → base.Ns mainGlobals mg → (∀ p ∈ cs, LamX.TabB base mg p.1 p.2) → FnOk P w K mg base CX0 15 fa fd ["script"] sp := by
  have e := hfa.symm.trans (PySem.W.mg_of X G a53)
  cases e
  have D_value_key : Def K mg "value_key" s_value_key ["value"] := dm_value_key X G a0 l0 c0 k0
  have D_row_key : Def K mg "row_key" s_row_key ["row"] := dm_row_key X G a1 l1 c1 k1
  have D_sorted_rows : Def K mg "sorted_rows" s_sorted_rows ["rows"] := dm_sorted_rows X G a2 l2 c2 k2
  have D_table_of : Def K mg "table_of" s_table_of ["schema", "name"] := dm_table_of X G a3 l3 c3 k3
  have D_key_of : Def K mg "key_of" s_key_of ["table", "row"] := dm_key_of X G a4 l4 c4 k4
  have D_place_of : Def K mg "place_of" s_place_of ["schema", "name", "row"] := dm_place_of X G a5 l5 c5 k5
  have D_later_end : Def K mg "later_end" s_later_end ["end", "other"] := dm_later_end X G a6 l6 c6 k6
  have D_earlier_end : Def K mg "earlier_end" s_earlier_end ["end", "other"] := dm_earlier_end X G a7 l7 c7 k7
  have D_span_of : DefC K mg "span_of" s_span_of ["stretches"] cb := ⟨_, _, funC_mk (st := s_span_of) l8 c8 k8, PySem.W.mg_of X G a8, (fun_mk (st := s_span_of) l8 c8 k8).binds (ps := ["stretches"]) fun _ _ _ _ _ _ us hl => match us, hl with | [_], _ => rfl⟩
  have D_has : Def K mg "has" s_has ["span", "moment"] := dm_has X G a9 l9 c9 k9
  have D_met : Def K mg "met" s_met ["span", "other"] := dm_met X G a10 l10 c10 k10
  have D_rest : Def K mg "rest" s_rest ["span"] := dm_rest X G a11 l11 c11 k11
  have D_without : Def K mg "without" s_without ["span", "other"] := dm_without X G a12 l12 c12 k12
  have D_verdicts_by_place : Def K mg "verdicts_by_place" s_verdicts_by_place ["schema", "verdicts"] := dm_verdicts_by_place X G a13 l13 c13 k13
  have D_cut_span : Def K mg "cut_span" s_cut_span ["report", "verdicts"] := dm_cut_span X G a14 l14 c14 k14
  have D_cut_reports : Def K mg "cut_reports" s_cut_reports ["schema", "told"] := dm_cut_reports X G a15 l15 c15 k15
  have D_told_rows : Def K mg "told_rows" s_told_rows ["schema", "told", "name", "key", "moment"] := dm_told_rows X G a16 l16 c16 k16
  have D_l_draws : Def K mg "_law_draws" s_l_draws ["script", "many"] := dm_l_draws X G a17 l17 c17 k17
  have D_l_take : Def K mg "_law_take" s_l_take ["draws", "many"] := dm_l_take X G a18 l18 c18 k18
  have D_l_pick : Def K mg "_law_pick" s_l_pick ["draws", "row"] := dm_l_pick X G a19 l19 c19 k19
  have D_l_same : Def K mg "_law_same" s_l_same ["actual", "due"] := dm_l_same X G a20 l20 c20 k20
  have D_l_words : Def K mg "_law_words" s_l_words ["draws", "many"] := dm_l_words X G a21 l21 c21 k21
  have D_l_value_key : Def K mg "_law_value_key" s_l_value_key ["value"] := dm_l_value_key X G a22 l22 c22 k22
  have D_l_row_key : Def K mg "_law_row_key" s_l_row_key ["row"] := dm_l_row_key X G a23 l23 c23 k23
  have D_l_sorted_rows : Def K mg "_law_sorted_rows" s_l_sorted_rows ["rows"] := dm_l_sorted_rows X G a24 l24 c24 k24
  have D_l_values : Def K mg "_law_values" s_l_values ["draws", "words"] := dm_l_values X G a25 l25 c25 k25
  have D_l_schema : Def K mg "_law_schema" s_l_schema ["draws", "words"] := dm_l_schema X G a26 l26 c26 k26
  have D_l_span : Def K mg "_law_span" s_l_span ["draws", "great"] := dm_l_span X G a27 l27 c27 k27
  have D_l_has : Def K mg "_law_has" s_l_has ["span", "moment"] := dm_l_has X G a28 l28 c28 k28
  have D_l_meet : Def K mg "_law_meet" s_l_meet ["span", "other"] := dm_l_meet X G a29 l29 c29 k29
  have D_l_key_of : Def K mg "_law_key_of" s_l_key_of ["schema", "name", "row"] := dm_l_key_of X G a30 l30 c30 k30
  have D_l_drawn_row : Def K mg "_law_drawn_row" s_l_drawn_row ["draws", "table", "values"] := dm_l_drawn_row X G a31 l31 c31 k31
  have D_l_reports : Def K mg "_law_reports" s_l_reports ["draws", "schema", "values", "sources", "many", "great"] := dm_l_reports X G a32 l32 c32 k32
  have D_l_clash : Def K mg "_law_clash" s_l_clash ["schema", "verdict", "other"] := dm_l_clash X G a33 l33 c33 k33
  have D_l_number : Def K mg "_law_number" s_l_number ["part"] := dm_l_number X G a34 l34 c34 k34
  have D_l_trust : Def K mg "_law_trust" s_l_trust ["draws", "sources"] := dm_l_trust X G a35 l35 c35 k35
  have D_l_told : Def K mg "_law_told" s_l_told ["draws", "schema", "values", "sources", "most", "great"] := dm_l_told X G a36 l36 c36 k36
  have D_l_is_cut : Def K mg "_law_is_cut" s_l_is_cut ["schema", "told", "report", "moment"] := dm_l_is_cut X G a37 l37 c37 k37
  have D_l_telling : Def K mg "_law_telling" s_l_telling ["schema", "told", "moment"] := dm_l_telling X G a38 l38 c38 k38
  have D_l_turns : Def K mg "_law_turns" s_l_turns ["told"] := dm_l_turns X G a39 l39 c39 k39
  have D_l_place_key : Def K mg "_law_place_key" s_l_place_key ["pair"] := dm_l_place_key X G a40 l40 c40 k40
  have D_l_keys : Def K mg "_law_keys" s_l_keys ["schema", "told"] := dm_l_keys X G a41 l41 c41 k41
  have D_l_span_by : Def K mg "_law_span_by" s_l_span_by ["turns", "flags"] := dm_l_span_by X G a42 l42 c42 k42
  have D_l_scale : Def K mg "_law_scale" s_l_scale ["draws"] := dm_l_scale X G a43 l43 c43 k43
  have D_l_far : Def K mg "_law_far" s_l_far ["draws", "told"] := dm_l_far X G a44 l44 c44 k44
  have D_l_world : Def K mg "_law_world" s_l_world ["draws", "many"] := dm_l_world X G a45 l45 c45 k45
  have D_l_last : Def K mg "_law_last" s_l_last ["told"] := dm_l_last X G a46 l46 c46 k46
  have D_l_rivals : Def K mg "_law_rivals" s_l_rivals ["draws", "world"] := dm_l_rivals X G a47 l47 c47 k47
  have D_l_three_tellings : Def K mg "_law_three_tellings" s_l_three_tellings ["draws", "world"] := dm_l_three_tellings X G a48 l48 c48 k48
  have D_l_cut_due : Def K mg "_law_cut_due" s_l_cut_due ["schema", "told", "turns"] := dm_l_cut_due X G a49 l49 c49 k49
  have D_l_rows_due : Def K mg "_law_rows_due" s_l_rows_due ["schema", "told", "pair", "moment"] := dm_l_rows_due X G a50 l50 c50 k50
  have D_l_moments : Def K mg "_law_moments" s_l_moments ["draws", "turns", "begin"] := dm_l_moments X G a51 l51 c51 k51
  have D_l_rows_are_right : Def K mg "_law_rows_are_right" s_l_rows_are_right ["schema", "told", "moments"] := dm_l_rows_are_right X G a52 l52 c52 k52
  have D_law : Def K mg "law" s_law ["script"] := dm_law X G a53 l53 c53 k53
  have B : Bi K mg := ⟨PySem.W.mg_none_of X G z_bool, PySem.W.mg_none_of X G z_int, PySem.W.mg_none_of X G z_isinstance, PySem.W.mg_none_of X G z_len, PySem.W.mg_none_of X G z_list, PySem.W.mg_none_of X G z_max, PySem.W.mg_none_of X G z_min, PySem.W.mg_none_of X G z_range, PySem.W.mg_none_of X G z_set, PySem.W.mg_none_of X G z_sorted, PySem.W.mg_none_of X G z_str, PySem.W.mg_none_of X G z_tuple⟩
  have I : Im mg := ⟨True.intro⟩
  refine ⟨PySem.W.fnOf "law" "law" (defArgs s_law) (defBody s_law) (defScope s_law) .none kV53 dc53 pm53 an53 cd53 ct53, [(cb, tb)], lawSp K [(tb, lamQ "span_of")], fun p hp => ?_, fun p hp => ?_, fun p hp => ?_, fun s v => .of_eq rfl, fun H a ns hl _ hT hS => ⟨a, ns, rfl, hl, hS, fun p hp => ?_, fun v _ e => e⟩, fun base _ _ hTB => ?_⟩
  · obtain rfl : p = (cb, tb) := by simpa using hp
    exact T _ _ r4 (PySem.W.mg_of X G a8) cb tb _ _ _ _ _ _ l8 rfl rfl r0 r1
  · obtain rfl : p = (cb, tb) := by simpa using hp
    exact r3
  · obtain rfl : p = (cb, tb) := by simpa using hp
    exact codeHd_of X r0 r1 r2 r3
  · obtain rfl : p = (tb, lamQ "span_of") := by simpa using hp
    exact hT (cb, tb) (by simp)
  have TB := hTB (cb, tb) (by simp)
  have C_value_key := ok_value_key (P := P) (w := w) (base := base) D_value_key B I 
  have C_row_key := ok_row_key (P := P) (w := w) (base := base) D_row_key B I C_value_key
  have C_sorted_rows := ok_sorted_rows (P := P) (w := w) (base := base) D_sorted_rows B I C_row_key
  have C_table_of := ok_table_of (P := P) (w := w) (base := base) D_table_of B I 
  have C_key_of := ok_key_of (P := P) (w := w) (base := base) D_key_of B I 
  have C_place_of := ok_place_of (P := P) (w := w) (base := base) D_place_of B I C_table_of C_key_of
  have C_later_end := ok_later_end (P := P) (w := w) (base := base) D_later_end B I 
  have C_earlier_end := ok_earlier_end (P := P) (w := w) (base := base) D_earlier_end B I 
  have C_span_of := ok_span_of (P := P) (w := w) (base := base) D_span_of TB B I C_later_end
  have C_has := ok_has (P := P) (w := w) (base := base) D_has B I 
  have C_met := ok_met (P := P) (w := w) (base := base) D_met B I C_earlier_end
  have C_rest := ok_rest (P := P) (w := w) (base := base) D_rest B I 
  have C_without := ok_without (P := P) (w := w) (base := base) D_without B I C_met C_rest
  have C_verdicts_by_place := ok_verdicts_by_place (P := P) (w := w) (base := base) D_verdicts_by_place B I C_place_of
  have C_cut_span := ok_cut_span (P := P) (w := w) (base := base) D_cut_span B I C_span_of C_without
  have C_cut_reports := ok_cut_reports (P := P) (w := w) (base := base) D_cut_reports B I C_place_of C_verdicts_by_place C_cut_span
  have C_told_rows := ok_told_rows (P := P) (w := w) (base := base) D_told_rows B I C_sorted_rows C_table_of C_key_of C_has C_cut_reports
  have C_l_draws := ok_l_draws (P := P) (w := w) (base := base) D_l_draws B I 
  have C_l_take := ok_l_take (P := P) (w := w) (base := base) D_l_take B I 
  have C_l_pick := ok_l_pick (P := P) (w := w) (base := base) D_l_pick B I C_l_take
  have C_l_same := ok_l_same (P := P) (w := w) (base := base) D_l_same B I 
  have C_l_words := ok_l_words (P := P) (w := w) (base := base) D_l_words B I C_l_take
  have C_l_value_key := ok_l_value_key (P := P) (w := w) (base := base) D_l_value_key B I 
  have C_l_row_key := ok_l_row_key (P := P) (w := w) (base := base) D_l_row_key B I C_l_value_key
  have C_l_sorted_rows := ok_l_sorted_rows (P := P) (w := w) (base := base) D_l_sorted_rows B I C_l_row_key
  have C_l_values := ok_l_values (P := P) (w := w) (base := base) D_l_values B I C_l_take C_l_pick
  have C_l_schema := ok_l_schema (P := P) (w := w) (base := base) D_l_schema B I C_l_take C_l_pick
  have C_l_span := ok_l_span (P := P) (w := w) (base := base) D_l_span B I C_l_take
  have C_l_has := ok_l_has (P := P) (w := w) (base := base) D_l_has B I 
  have C_l_meet := ok_l_meet (P := P) (w := w) (base := base) D_l_meet B I C_l_has
  have C_l_key_of := ok_l_key_of (P := P) (w := w) (base := base) D_l_key_of B I 
  have C_l_drawn_row := ok_l_drawn_row (P := P) (w := w) (base := base) D_l_drawn_row B I C_l_take C_l_pick
  have C_l_reports := ok_l_reports (P := P) (w := w) (base := base) D_l_reports B I C_l_take C_l_pick C_l_span C_l_drawn_row
  have C_l_clash := ok_l_clash (P := P) (w := w) (base := base) D_l_clash B I C_l_meet C_l_key_of
  have C_l_number := ok_l_number (P := P) (w := w) (base := base) D_l_number B I 
  have C_l_trust := ok_l_trust (P := P) (w := w) (base := base) D_l_trust B I C_l_take
  have C_l_told := ok_l_told (P := P) (w := w) (base := base) D_l_told B I C_l_take C_l_pick C_l_span C_l_drawn_row C_l_reports C_l_clash C_l_number C_l_trust
  have C_l_is_cut := ok_l_is_cut (P := P) (w := w) (base := base) D_l_is_cut B I C_l_has C_l_key_of
  have C_l_telling := ok_l_telling (P := P) (w := w) (base := base) D_l_telling B I C_l_has C_l_is_cut
  have C_l_turns := ok_l_turns (P := P) (w := w) (base := base) D_l_turns B I 
  have C_l_place_key := ok_l_place_key (P := P) (w := w) (base := base) D_l_place_key B I C_l_row_key
  have C_l_keys := ok_l_keys (P := P) (w := w) (base := base) D_l_keys B I C_l_key_of C_l_place_key
  have C_l_span_by := ok_l_span_by (P := P) (w := w) (base := base) D_l_span_by B I 
  have C_l_scale := ok_l_scale (P := P) (w := w) (base := base) D_l_scale B I C_l_pick
  have C_l_far := ok_l_far (P := P) (w := w) (base := base) D_l_far B I C_l_take C_l_pick
  have C_l_world := ok_l_world (P := P) (w := w) (base := base) D_l_world B I C_l_pick C_l_words C_l_values C_l_schema C_l_told C_l_scale C_l_far
  have C_l_last := ok_l_last (P := P) (w := w) (base := base) D_l_last B I 
  have C_l_rivals := ok_l_rivals (P := P) (w := w) (base := base) D_l_rivals B I C_l_take C_l_pick C_l_drawn_row C_l_last
  have C_l_three_tellings := ok_l_three_tellings (P := P) (w := w) (base := base) D_l_three_tellings B I C_l_take C_l_rivals
  have C_l_cut_due := ok_l_cut_due (P := P) (w := w) (base := base) D_l_cut_due B I C_l_has C_l_is_cut C_l_span_by
  have C_l_rows_due := ok_l_rows_due (P := P) (w := w) (base := base) D_l_rows_due B I C_l_sorted_rows C_l_key_of C_l_telling
  have C_l_moments := ok_l_moments (P := P) (w := w) (base := base) D_l_moments B I C_l_take C_l_pick
  have C_l_rows_are_right := ok_l_rows_are_right (P := P) (w := w) (base := base) D_l_rows_are_right B I C_told_rows C_l_same C_l_keys C_l_rows_due
  exact ok_law (fun_mk (st := s_law) l53 c53 k53) B I C_cut_reports C_told_rows C_l_draws C_l_same C_l_turns C_l_world C_l_three_tellings C_l_cut_due C_l_moments C_l_rows_are_right
end Law
open PySem PySem.W PyProof.Rows
set_option maxHeartbeats 0 in
theorem PySem.Challenge.cw_doubtbook_k08_cut_reports_and_told_rows_holds : PySem.Challenge.rw_doubtbook_k08_cut_reports_and_told_rows.Holds := by
  w_on; o_law; k_head; (case hw => w_witness2)
  k_fill
  refine DL.walk_ofAny (l := PySem.Challenge.rw_doubtbook_k08_cut_reports_and_told_rows) (n := 63) (k := 15) (x := "script") (CX := fun _ => L2.CX0) rfl (by decide) rfl ⟨rfl, by decide, by decide⟩ (fun w h Y => by first | exact PySem.W.kIn_of Y | exact PySem.W.km_in_of Y) ?F (fun _ _ _ _ _ h => h)
  case F =>
    intro w mg fa h KX G hmg T
    refine' Law.all_mk KX G hmg T ?a0 ?l0 ?c0 ?k0 ?a1 ?l1 ?c1 ?k1 ?a2 ?l2 ?c2 ?k2 ?a3 ?l3 ?c3 ?k3 ?a4 ?l4 ?c4 ?k4 ?a5 ?l5 ?c5 ?k5 ?a6 ?l6 ?c6 ?k6 ?a7 ?l7 ?c7 ?k7 ?a8 ?l8 ?c8 ?k8 ?r0 ?r1 ?r2 ?r3 ?r4 ?a9 ?l9 ?c9 ?k9 ?a10 ?l10 ?c10 ?k10 ?a11 ?l11 ?c11 ?k11 ?a12 ?l12 ?c12 ?k12 ?a13 ?l13 ?c13 ?k13 ?a14 ?l14 ?c14 ?k14 ?a15 ?l15 ?c15 ?k15 ?a16 ?l16 ?c16 ?k16 ?a17 ?l17 ?c17 ?k17 ?a18 ?l18 ?c18 ?k18 ?a19 ?l19 ?c19 ?k19 ?a20 ?l20 ?c20 ?k20 ?a21 ?l21 ?c21 ?k21 ?a22 ?l22 ?c22 ?k22 ?a23 ?l23 ?c23 ?k23 ?a24 ?l24 ?c24 ?k24 ?a25 ?l25 ?c25 ?k25 ?a26 ?l26 ?c26 ?k26 ?a27 ?l27 ?c27 ?k27 ?a28 ?l28 ?c28 ?k28 ?a29 ?l29 ?c29 ?k29 ?a30 ?l30 ?c30 ?k30 ?a31 ?l31 ?c31 ?k31 ?a32 ?l32 ?c32 ?k32 ?a33 ?l33 ?c33 ?k33 ?a34 ?l34 ?c34 ?k34 ?a35 ?l35 ?c35 ?k35 ?a36 ?l36 ?c36 ?k36 ?a37 ?l37 ?c37 ?k37 ?a38 ?l38 ?c38 ?k38 ?a39 ?l39 ?c39 ?k39 ?a40 ?l40 ?c40 ?k40 ?a41 ?l41 ?c41 ?k41 ?a42 ?l42 ?c42 ?k42 ?a43 ?l43 ?c43 ?k43 ?a44 ?l44 ?c44 ?k44 ?a45 ?l45 ?c45 ?k45 ?a46 ?l46 ?c46 ?k46 ?a47 ?l47 ?c47 ?k47 ?a48 ?l48 ?c48 ?k48 ?a49 ?l49 ?c49 ?k49 ?a50 ?l50 ?c50 ?k50 ?a51 ?l51 ?c51 ?k51 ?a52 ?l52 ?c52 ?k52 ?a53 ?l53 ?c53 ?k53 ?z_bool ?z_int ?z_isinstance ?z_len ?z_list ?z_max ?z_min ?z_range ?z_set ?z_sorted ?z_str ?z_tuple
    (case a0 => k_is); (case l0 => k_is); (case c0 => k_is); (case k0 => k_is); (case a1 => k_is); (case l1 => k_is); (case c1 => k_is); (case k1 => k_is); (case a2 => k_is); (case l2 => k_is); (case c2 => k_is); (case k2 => k_is); (case a3 => k_is); (case l3 => k_is); (case c3 => k_is); (case k3 => k_is); (case a4 => k_is); (case l4 => k_is); (case c4 => k_is); (case k4 => k_is); (case a5 => k_is); (case l5 => k_is); (case c5 => k_is); (case k5 => k_is); (case a6 => k_is); (case l6 => k_is); (case c6 => k_is); (case k6 => k_is); (case a7 => k_is); (case l7 => k_is); (case c7 => k_is); (case k7 => k_is); (case a8 => k_is); (case l8 => k_is); (case c8 => k_is); (case k8 => k_is); (case r0 => k_is); (case r1 => rfl); (case r2 => rfl); (case r3 => first | kernel_rfl | rfl); (case r4 => first | kernel_rfl | rfl | decide +kernel); (case a9 => k_is); (case l9 => k_is); (case c9 => k_is); (case k9 => k_is); (case a10 => k_is); (case l10 => k_is); (case c10 => k_is); (case k10 => k_is); (case a11 => k_is); (case l11 => k_is); (case c11 => k_is); (case k11 => k_is); (case a12 => k_is); (case l12 => k_is); (case c12 => k_is); (case k12 => k_is); (case a13 => k_is); (case l13 => k_is); (case c13 => k_is); (case k13 => k_is); (case a14 => k_is); (case l14 => k_is); (case c14 => k_is); (case k14 => k_is); (case a15 => k_is); (case l15 => k_is); (case c15 => k_is); (case k15 => k_is); (case a16 => k_is); (case l16 => k_is); (case c16 => k_is); (case k16 => k_is); (case a17 => k_is); (case l17 => k_is); (case c17 => k_is); (case k17 => k_is); (case a18 => k_is); (case l18 => k_is); (case c18 => k_is); (case k18 => k_is); (case a19 => k_is); (case l19 => k_is); (case c19 => k_is); (case k19 => k_is); (case a20 => k_is); (case l20 => k_is); (case c20 => k_is); (case k20 => k_is); (case a21 => k_is); (case l21 => k_is); (case c21 => k_is); (case k21 => k_is); (case a22 => k_is); (case l22 => k_is); (case c22 => k_is); (case k22 => k_is); (case a23 => k_is); (case l23 => k_is); (case c23 => k_is); (case k23 => k_is); (case a24 => k_is); (case l24 => k_is); (case c24 => k_is); (case k24 => k_is); (case a25 => k_is); (case l25 => k_is); (case c25 => k_is); (case k25 => k_is); (case a26 => k_is); (case l26 => k_is); (case c26 => k_is); (case k26 => k_is); (case a27 => k_is); (case l27 => k_is); (case c27 => k_is); (case k27 => k_is); (case a28 => k_is); (case l28 => k_is); (case c28 => k_is); (case k28 => k_is); (case a29 => k_is); (case l29 => k_is); (case c29 => k_is); (case k29 => k_is); (case a30 => k_is); (case l30 => k_is); (case c30 => k_is); (case k30 => k_is); (case a31 => k_is); (case l31 => k_is); (case c31 => k_is); (case k31 => k_is); (case a32 => k_is); (case l32 => k_is); (case c32 => k_is); (case k32 => k_is); (case a33 => k_is); (case l33 => k_is); (case c33 => k_is); (case k33 => k_is); (case a34 => k_is); (case l34 => k_is); (case c34 => k_is); (case k34 => k_is); (case a35 => k_is); (case l35 => k_is); (case c35 => k_is); (case k35 => k_is); (case a36 => k_is); (case l36 => k_is); (case c36 => k_is); (case k36 => k_is); (case a37 => k_is); (case l37 => k_is); (case c37 => k_is); (case k37 => k_is); (case a38 => k_is); (case l38 => k_is); (case c38 => k_is); (case k38 => k_is); (case a39 => k_is); (case l39 => k_is); (case c39 => k_is); (case k39 => k_is); (case a40 => k_is); (case l40 => k_is); (case c40 => k_is); (case k40 => k_is); (case a41 => k_is); (case l41 => k_is); (case c41 => k_is); (case k41 => k_is); (case a42 => k_is); (case l42 => k_is); (case c42 => k_is); (case k42 => k_is); (case a43 => k_is); (case l43 => k_is); (case c43 => k_is); (case k43 => k_is); (case a44 => k_is); (case l44 => k_is); (case c44 => k_is); (case k44 => k_is); (case a45 => k_is); (case l45 => k_is); (case c45 => k_is); (case k45 => k_is); (case a46 => k_is); (case l46 => k_is); (case c46 => k_is); (case k46 => k_is); (case a47 => k_is); (case l47 => k_is); (case c47 => k_is); (case k47 => k_is); (case a48 => k_is); (case l48 => k_is); (case c48 => k_is); (case k48 => k_is); (case a49 => k_is); (case l49 => k_is); (case c49 => k_is); (case k49 => k_is); (case a50 => k_is); (case l50 => k_is); (case c50 => k_is); (case k50 => k_is); (case a51 => k_is); (case l51 => k_is); (case c51 => k_is); (case k51 => k_is); (case a52 => k_is); (case l52 => k_is); (case c52 => k_is); (case k52 => k_is); (case a53 => k_is); (case l53 => k_is); (case c53 => k_is); (case k53 => k_is); (case z_bool => k_is); (case z_int => k_is); (case z_isinstance => k_is); (case z_len => k_is); (case z_list => k_is); (case z_max => k_is); (case z_min => k_is); (case z_range => k_is); (case z_set => k_is); (case z_sorted => k_is); (case z_str => k_is); (case z_tuple => k_is)
