import PyProof.Rows.All
import Wide.All
import OpenK.AllK
import Wide.FinOn
import HandS.ForMost
import HandS.IsInst
import HandS.Wide
import HandS.Lambda
import HandS.HeadHook4
import HandS.Walk
import HandS.Zip
import HandS.Defaults
import HandS.HeadEnd
import HandS.HeadHook1
import HandS.HeadHook2
import KE.DataEq
import PyProof.Rows.RuleB_pow
import HandS.TupAny
import HandS.TupMul
import KE.LtData
import HandS.Head0
import HandS.Head1
import HandS.Head2
import KE.KStateDown
import KE.GoesEnum
import PyProof.EnumMake
import HandS.Conv
import HandS.Small
import HandS.Replace
import KE.SortData
import KE.DataCmp
import HandS.Style
import HandS.FStr
import HandS.Flow
import HandS.SetTxt0
import HandS.TupSets
import HandS.ListItems
import HandS.More
import HandS.WordsDict
import HandS.Iter
import HandS.Dict
import HandS.DictTup
import HandS.ForExc
import HandS.Strs
import KE.DataMinMax
import KE.KUnpack
import PyProof.Transfer
import KE.KIntText
import HandS.StrMore
import KE.KeyNested
import PyProof.ReprRoads
import PyProof.StrLawsRepr
import PyProof.CallFns
import HandS.FStrTup
import HandS.SetKeys
import HandS.NoneIn
import HandS.SortKw
import KE.SortKeyHeap
import HandS.WideBits
import KE.KDictKeyed
import PyProof.AutoSeq1
import HandS.Rev
import HandS.HeadWalk
import PyProof.ListNew
import KE.KDictWalk
import PySem.Challenge.RW_answertrees_k49_what_a_log_leaves
set_option Elab.async false
set_option linter.all false
set_option maxRecDepth 100000
set_option maxHeartbeats 4000000
/-! A layer of our own over the hand layer: values as data, a small store of cells, no heap in sight. -/
namespace G
open PySem PySem.Spec PyProof.Rows L2
abbrev D := PyData
/-- what a name holds: data that nobody changes, or the k-th cell of the store -/
inductive Vl where
  | dat (d : D)
  | cel (k : Nat)
/-- what a cell holds -/
inductive Cell where
  | lst (xs : List Vl)
  | dct (kvs : List (Key × Vl))
  | obj (C : Addr) (fs : List (Str × Vl))
  | dcx (o : Addr → List D → List (V × V) → HO) (kvs : List (D × Vl))
/-! ### data in a heap -/
theorem rd_mono {H H' : Hp} {a : Addr} {u : HO} (e : Same H H') (h : Rd H a u) : Rd H' a u := by
  rcases h with h | ⟨o, h⟩
  · exact .inl (e _ _ h)
  · exact .inr ⟨o, e _ _ h⟩
theorem sqT_mono {K : PySem.W.Frag} {H H' : Hp} {a : Addr} {xs : List V} (e : Same H H') (h : SqT K H a xs) : SqT K H' a xs := by
  rcases h with h | h
  · exact .inl (rd_mono e h)
  · exact .inr h
theorem sqL_mono {K : PySem.W.Frag} {H H' : Hp} {a : Addr} {xs : List V} (e : Same H H') (h : SqL K H a xs) : SqL K H' a xs := by
  rcases h with h | h
  · exact .inl (rd_mono e h)
  · exact .inr h
def keyOf : D → Option Key
  | .str z => some (Sum.inr z)
  | .int i => some (Sum.inl i)
  | _ => none
mutual
def Rp (K : PySem.W.Frag) (H : Hp) : D → V → Prop
  | .none, v => v = .non
  | .bool b, v => v = .bl b
  | .int i, v => v = .int i
  | .str x, v => v = .str x
  | .tuple ds, v => ∃ (a : Addr) (vs : List V), v = .ref a ∧ SqT K H a vs ∧ RpL K H ds vs
  | .list ds, v => ∃ (a : Addr) (vs : List V), v = .ref a ∧ SqL K H a vs ∧ RpL K H ds vs
  | .dict kvs, v => ∃ a : Addr, v = .ref a ∧ RpM K H a kvs
/-- a dict as data: an empty row of entries is any dict; a first entry None: a dict that nobody changes, with the other entries; a first entry True: the tuple told there, and its object has no dict -/
def RpM (K : PySem.W.Frag) (H : Hp) (a : Addr) : List (PyData × PyData) → Prop
  | [] => ∃ ws, Rd H a (.dK ws)
  | p :: r => (p.1 = .none → ∃ o ws, H a = some (.frz o (.dK ws)) ∧ RpK K H r ws) ∧ RpX K H a p
def RpX (K : PySem.W.Frag) (H : Hp) (a : Addr) : PyData × PyData → Prop
  | (k, d) => (k = .none ∨ k = .bool true) ∧ (k = .bool true → (∃ ds, d = .tuple ds) ∧ Rp K H d (.ref a) ∧ ∃ o u, H a = some (.frz o u) ∧ o.dict = none)
def RpK (K : PySem.W.Frag) (H : Hp) : List (PyData × PyData) → List (Key × V) → Prop
  | [], ws => ws = []
  | p :: r, ws => ∃ (q : Key × V) (t : List (Key × V)), ws = q :: t ∧ RpP K H p q ∧ RpK K H r t
def RpP (K : PySem.W.Frag) (H : Hp) : PyData × PyData → Key × V → Prop
  | (k, d), q => keyOf k = some q.1 ∧ Rp K H d q.2
def RpL (K : PySem.W.Frag) (H : Hp) : List D → List V → Prop
  | [], vs => vs = []
  | d :: ds, vs => ∃ (v : V) (r : List V), vs = v :: r ∧ Rp K H d v ∧ RpL K H ds r
end
section
variable {K : PySem.W.Frag} {H H' : Hp}
mutual
theorem Rp.mono (e : Same H H') : ∀ {d : D} {v : V}, Rp K H d v → Rp K H' d v
  | .none, _, h => h
  | .bool _, _, h => h
  | .int _, _, h => h
  | .str _, _, h => h
  | .tuple _, _, ⟨a, vs, e1, hs, h⟩ => ⟨a, vs, e1, sqT_mono e hs, RpL.mono e h⟩
  | .list _, _, ⟨a, vs, e1, hs, h⟩ => ⟨a, vs, e1, sqL_mono e hs, RpL.mono e h⟩
  | .dict _, _, ⟨a, e1, h⟩ => ⟨a, e1, RpM.mono e h⟩
theorem RpM.mono (e : Same H H') {a : Addr} : ∀ {kvs : List (PyData × PyData)}, RpM K H a kvs → RpM K H' a kvs
  | [], ⟨ws, h⟩ => ⟨ws, rd_mono e h⟩
  | _ :: _, ⟨h1, h2⟩ => ⟨fun q => let ⟨o, ws, h3, h4⟩ := h1 q; ⟨o, ws, e _ _ h3, RpK.mono e h4⟩, RpX.mono e h2⟩
theorem RpX.mono (e : Same H H') {a : Addr} : ∀ {p : PyData × PyData}, RpX K H a p → RpX K H' a p
  | (_, _), ⟨h0, h⟩ => ⟨h0, fun q => let ⟨h1, h2, o, u, h3, h4⟩ := h q; ⟨h1, Rp.mono e h2, o, u, e _ _ h3, h4⟩⟩
theorem RpK.mono (e : Same H H') : ∀ {kvs : List (PyData × PyData)} {ws : List (Key × V)}, RpK K H kvs ws → RpK K H' kvs ws
  | [], _, h => h
  | _ :: _, _, ⟨q, t, e1, h1, h2⟩ => ⟨q, t, e1, RpP.mono e h1, RpK.mono e h2⟩
theorem RpP.mono (e : Same H H') : ∀ {p : PyData × PyData} {q : Key × V}, RpP K H p q → RpP K H' p q
  | (_, _), _, ⟨h1, h2⟩ => ⟨h1, Rp.mono e h2⟩
theorem RpL.mono (e : Same H H') : ∀ {ds : List D} {vs : List V}, RpL K H ds vs → RpL K H' ds vs
  | [], _, h => h
  | _ :: _, _, ⟨v, r, e1, h1, h2⟩ => ⟨v, r, e1, Rp.mono e h1, RpL.mono e h2⟩
end
theorem RpL.length : ∀ {ds : List D} {vs : List V}, RpL K H ds vs → vs.length = ds.length
  | [], _, h => by
    have e : _ = [] := h
    rw [e]
    rfl
  | _ :: _, _, ⟨v, r, e1, h1, h2⟩ => by rw [e1, List.length_cons, List.length_cons, RpL.length h2]
theorem RpL.get : ∀ {ds : List D} {vs : List V} {i : Nat} {d : D}, RpL K H ds vs → ds[i]? = some d → ∃ v, vs[i]? = some v ∧ Rp K H d v
  | [], _, _, _, _, e => by simp at e
  | _ :: _, _, 0, _, ⟨v, r, e1, h1, h2⟩, e => by
    have e2 := Option.some.inj (by simpa using e)
    subst e2
    exact ⟨v, by rw [e1]; rfl, h1⟩
  | _ :: _, _, i + 1, _, ⟨v, r, e1, h1, h2⟩, e => by
    obtain ⟨w, hw, hr⟩ := RpL.get (i := i) h2 (by simpa using e)
    exact ⟨w, by rw [e1]; simpa using hw, hr⟩
theorem RpL.getV {ds : List D} {vs : List V} {i : Nat} {v : V} (h : RpL K H ds vs) (e : vs[i]? = some v) : ∃ d, ds[i]? = some d ∧ Rp K H d v := by
  have hl := h.length
  have hi : i < vs.length := (List.getElem?_eq_some_iff.mp e).1
  obtain ⟨d, hd⟩ : ∃ d, ds[i]? = some d := ⟨ds[i]'(by omega), List.getElem?_eq_getElem (by omega)⟩
  obtain ⟨w, hw, hr⟩ := h.get hd
  rw [e] at hw
  have q := Option.some.inj hw
  subst q
  exact ⟨d, hd, hr⟩
theorem RpL.append : ∀ {ds es : List D} {vs ws : List V}, RpL K H ds vs → RpL K H es ws → RpL K H (ds ++ es) (vs ++ ws)
  | [], _, _, _, h, g => by
    have e : _ = [] := h
    rw [e]
    exact g
  | _ :: _, _, _, _, ⟨v, r, e1, h1, h2⟩, g => ⟨v, _, by rw [e1]; rfl, h1, RpL.append h2 g⟩
theorem RpL.of_ints : ∀ ns : List Int, RpL K H (ns.map .int) (ns.map .int)
  | [] => rfl
  | n :: ns => ⟨_, _, rfl, rfl, RpL.of_ints ns⟩
theorem RpL.strs_inv : ∀ {ns : List Str} {vs : List V}, RpL K H (ns.map .str) vs → vs = ns.map .str
  | [], _, h => h
  | n :: ns, _, ⟨v, r, e1, h1, h2⟩ => by
    have e : v = .str n := h1
    rw [e1, e, RpL.strs_inv h2]
    rfl
theorem RpL.bls_inv : ∀ {ns : List Bool} {vs : List V}, RpL K H (ns.map .bool) vs → vs = ns.map .bl
  | [], _, h => h
  | n :: ns, _, ⟨v, r, e1, h1, h2⟩ => by
    have e : v = .bl n := h1
    rw [e1, e, RpL.bls_inv h2]
    rfl
end
/-! ### the store -/
def Pre (A A' : List Addr) : Prop := ∀ (k : Nat) (a : Addr), A[k]? = some a → A'[k]? = some a
theorem Pre.refl (A : List Addr) : Pre A A := fun _ _ h => h
theorem Pre.trans {A B C : List Addr} (h : Pre A B) (g : Pre B C) : Pre A C := fun k a e => g k a (h k a e)
theorem Pre.app (A B : List Addr) : Pre A (A ++ B) := fun k a e => by
  have hi := (List.getElem?_eq_some_iff.mp e).1
  rw [List.getElem?_append_left hi]
  exact e
def RpV (K : PySem.W.Frag) (B : Hp) (A : List Addr) : Vl → V → Prop
  | .dat d, v => Rp K B d v
  | .cel k, v => ∃ a, A[k]? = some a ∧ v = .ref a
def RpO (K : PySem.W.Frag) (B : Hp) (A : List Addr) : Option Vl → Option V → Prop
  | none, _ => True
  | some x, some v => RpV K B A x v
  | some _, none => False
theorem RpV.mono {K : PySem.W.Frag} {B B' : Hp} {A A' : List Addr} (e : Same B B') (p : Pre A A') : ∀ {x : Vl} {v : V}, RpV K B A x v → RpV K B' A' x v
  | .dat _, _, h => Rp.mono e h
  | .cel _, _, ⟨a, h, e1⟩ => ⟨a, p _ _ h, e1⟩
theorem RpO.mono {K : PySem.W.Frag} {B B' : Hp} {A A' : List Addr} (e : Same B B') (p : Pre A A') : ∀ {x : Option Vl} {v : Option V}, RpO K B A x v → RpO K B' A' x v
  | none, _, _ => trivial
  | some _, some _, h => RpV.mono (K := K) e p h
  | some _, none, h => h.elim
abbrev RpVs (K : PySem.W.Frag) (B : Hp) (A : List Addr) : List Vl → List V → Prop := Paired (RpV K B A)
abbrev RpOs (K : PySem.W.Frag) (B : Hp) (A : List Addr) : List (Option Vl) → List (Option V) → Prop := Paired (RpO K B A)
theorem RpVs.mono {K : PySem.W.Frag} {B B' : Hp} {A A' : List Addr} (e : Same B B') (p : Pre A A') {xs : List Vl} {vs : List V} (h : RpVs K B A xs vs) : RpVs K B' A' xs vs := Paired.mapP h fun _ _ q => RpV.mono e p q
theorem RpOs.mono {K : PySem.W.Frag} {B B' : Hp} {A A' : List Addr} (e : Same B B') (p : Pre A A') {xs : List (Option Vl)} {vs : List (Option V)} (h : RpOs K B A xs vs) : RpOs K B' A' xs vs := Paired.mapP h fun _ _ q => RpO.mono e p q
theorem Paired.get' {α β : Type} {F : α → β → Prop} : ∀ {xs : List α} {ys : List β} {i : Nat} {x : α}, Paired F xs ys → xs[i]? = some x → ∃ y, ys[i]? = some y ∧ F x y
  | _, _, _, _, .nil, e => by simp at e
  | _, _, 0, _, .cons r _, e => by
    have q := Option.some.inj (by simpa using e)
    subst q
    exact ⟨_, rfl, r⟩
  | _, _, i + 1, x, .cons _ t, e => by
    obtain ⟨y, h1, h2⟩ := Paired.get' (i := i) (x := x) t (by simpa using e)
    exact ⟨y, by simpa using h1, h2⟩
theorem Paired.set' {α β : Type} {F : α → β → Prop} {x : α} {y : β} (r : F x y) : ∀ {xs : List α} {ys : List β} (i : Nat), Paired F xs ys → Paired F (xs.set i x) (ys.set i y)
  | _, _, _, .nil => .nil
  | _, _, 0, .cons _ t => .cons r t
  | _, _, i + 1, .cons q t => .cons q (Paired.set' r i t)
theorem Paired.app' {α β : Type} {F : α → β → Prop} : ∀ {xs xs' : List α} {ys ys' : List β}, Paired F xs ys → Paired F xs' ys' → Paired F (xs ++ xs') (ys ++ ys')
  | _, _, _, _, .nil, s => s
  | _, _, _, _, .cons r t, s => .cons r (Paired.app' t s)
theorem RpVs.dats {K : PySem.W.Frag} {B : Hp} {A : List Addr} : ∀ {ds : List D} {vs : List V}, RpVs K B A (ds.map .dat) vs → RpL K B ds vs
  | [], _, .nil => rfl
  | _ :: _, _, .cons r t => ⟨_, _, rfl, r, RpVs.dats t⟩
theorem RpVs.of_dats {K : PySem.W.Frag} {B : Hp} {A : List Addr} : ∀ {ds : List D} {vs : List V}, RpL K B ds vs → RpVs K B A (ds.map .dat) vs
  | [], _, h => by
    have e : _ = [] := h
    rw [e]
    exact .nil
  | _ :: _, _, ⟨v, r, e1, h1, h2⟩ => by
    rw [e1]
    exact .cons h1 (RpVs.of_dats h2)
def CellOk (K : PySem.W.Frag) (B : Hp) (A : List Addr) (H : Hp) (a : Addr) : Cell → Prop
  | .lst xs => ∃ vs, H a = some (.lst vs) ∧ RpVs K B A xs vs
  | .dct kvs => ∃ ws, H a = some (.dK ws) ∧ Paired (fun (p : Key × Vl) (q : Key × V) => p.1 = q.1 ∧ RpV K B A p.2 q.2) kvs ws
  | .obj C fs => ∃ dx ws, H a = some (.ins C dx ws) ∧ Paired (fun (p : Str × Vl) (q : Str × V) => p.1 = q.1 ∧ RpV K B A p.2 q.2) fs ws
  | .dcx o kvs => ∃ ws, H a = some (o a (kvs.map (·.1)) ws) ∧ Paired (fun (p : D × Vl) (q : V × V) => Rp K B p.1 q.1 ∧ RpV K B A p.2 q.2) kvs ws
theorem CellOk.mono {K : PySem.W.Frag} {B B' : Hp} {A A' : List Addr} {H H' : Hp} {a : Addr} (e : Same B B') (p : Pre A A') (ha : H' a = H a) : ∀ {c : Cell}, CellOk K B A H a c → CellOk K B' A' H' a c
  | .lst _, ⟨vs, h, r⟩ => ⟨vs, by rw [ha]; exact h, RpVs.mono e p r⟩
  | .dct _, ⟨ws, h, r⟩ => ⟨ws, by rw [ha]; exact h, Paired.mapP r fun _ _ q => ⟨q.1, RpV.mono e p q.2⟩⟩
  | .obj _ _, ⟨dx, ws, h, r⟩ => ⟨dx, ws, by rw [ha]; exact h, Paired.mapP r fun _ _ q => ⟨q.1, RpV.mono e p q.2⟩⟩
  | .dcx _ _, ⟨ws, h, r⟩ => ⟨ws, by rw [ha]; exact h, Paired.mapP r fun _ _ q => ⟨Rp.mono e q.1, RpV.mono e p q.2⟩⟩
theorem CellOk.there {K : PySem.W.Frag} {B : Hp} {A : List Addr} {H : Hp} {a : Addr} : ∀ {c : Cell}, CellOk K B A H a c → H a ≠ none
  | .lst _, ⟨_, h, _⟩, z => by rw [h] at z; cases z
  | .dct _, ⟨_, h, _⟩, z => by rw [h] at z; cases z
  | .obj _ _, ⟨_, _, h, _⟩, z => by rw [h] at z; cases z
  | .dcx _ _, ⟨_, h, _⟩, z => by rw [h] at z; cases z
abbrev Env := List (Option Vl)
/-! ### tables of code objects of the defs that make lambdas -/
def lamDef : Str := "ordered"
def tabsOf (K : PySem.W.Frag) : List (Addr × Str) := match PySem.W.nsIn K mainGlobals lamDef with
  | some (some _) => [((He.cT K (lamDef, none)).2, lamDef ++ ".<locals>.<lambda>")]
  | _ => []
theorem tabsOf_nil {K : PySem.W.Frag} (h : PySem.W.nsIn K mainGlobals lamDef = some none) : tabsOf K = [] := by
  unfold tabsOf
  rw [h]
def TabK (K : PySem.W.Frag) (F B H : Hp) (A : List Addr) : Prop := ∀ p ∈ tabsOf K, F p.1 = none ∧ B p.1 = none ∧ p.1 ∉ A ∧ ∃ ps : Array Value, H p.1 = some (.tbl ps) ∧ TriplesOk ps.toList ∧
  ∀ (pos : Pos) (cv : Value), codeAmong pos ps.toList = some cv → ∃ c, cv = .ref c ∧ B c = some (LamX.CodeO c p.2)
theorem TabK.step {K : PySem.W.Frag} {F B H F' B' H' : Hp} {A A' : List Addr} (t : TabK K F B H A) (e : Same B B') (f : ∀ P ps, H P = some (.tbl ps) → F P = none → B P = none → P ∉ A → F' P = none ∧ B' P = none ∧ P ∉ A' ∧ H' P = some (.tbl ps)) : TabK K F' B' H' A' := fun p hp => by
  obtain ⟨h1, h2, h3, ps, h4, h5, h6⟩ := t p hp
  obtain ⟨g1, g2, g3, g4⟩ := f p.1 ps h4 h1 h2 h3
  refine ⟨g1, g2, g3, ps, g4, h5, fun pos cv hc => ?_⟩
  obtain ⟨c, e1, e2⟩ := h6 pos cv hc
  exact ⟨c, e1, e _ _ e2⟩
/-- the heap grows -/
theorem TabK.up {K : PySem.W.Frag} {F B H : Hp} {A : List Addr} {p : Addr} {o : HO} (t : TabK K F B H A) (h : H p = none) : TabK K F B (upd H p o) A := t.step (Same.refl B) fun P ps h1 h2 h3 h4 => ⟨h2, h3, h4, by rw [upd_ne (ne_of_none h1 h)]; exact h1⟩
theorem TabK.nA {K : PySem.W.Frag} {F B H : Hp} {A A' : List Addr} (t : TabK K F B H A) (h : ∀ a, a ∈ A' → a ∈ A ∨ H a = none ∨ ∃ o, F a = some o) : TabK K F B H A' := t.step (Same.refl B) fun P ps h1 h2 h3 h4 => ⟨h2, h3, (fun z => by
  rcases h P z with h | h | ⟨o, h⟩
  · exact h4 h
  · rw [h1] at h
    cases h
  · rw [h2] at h
    cases h), h1⟩
/-- F: what others hold; B: what nobody changes; H: the heap; A: where the cells stand -/
structure St (K : PySem.W.Frag) (F B H : Hp) (A : List Addr) (env : Env) (cs : List Cell) (σ : L2.St) : Prop where
  eb : Same B H
  ef : Same F H
  bf : ∀ a o, F a = some o → B a = none
  la : A.length = cs.length
  nd : A.Nodup
  ca : ∀ (k : Nat) (a : Addr), A[k]? = some a → B a = none ∧ F a = none
  ch : ∀ (k : Nat) (a : Addr) (c : Cell), A[k]? = some a → cs[k]? = some c → CellOk K B A H a c
  sl : RpOs K B A env σ
  tb : TabK K F B H A
section
variable {K : PySem.W.Frag} {F B H : Hp} {A : List Addr} {env env' : Env} {cs : List Cell} {σ σ' : L2.St}
theorem St.withEnv (s : St K F B H A env cs σ) (h : RpOs K B A env' σ') : St K F B H A env' cs σ' := ⟨s.eb, s.ef, s.bf, s.la, s.nd, s.ca, s.ch, h, s.tb⟩
theorem St.cell {k : Nat} {c : Cell} (s : St K F B H A env cs σ) (h : cs[k]? = some c) : ∃ a, A[k]? = some a ∧ CellOk K B A H a c := by
  have hi := (List.getElem?_eq_some_iff.mp h).1
  have hA : k < A.length := by rw [s.la]; exact hi
  exact ⟨A[k], List.getElem?_eq_getElem hA, s.ch k _ c (List.getElem?_eq_getElem hA) h⟩
theorem St.there {k : Nat} {a : Addr} (s : St K F B H A env cs σ) (h : A[k]? = some a) : H a ≠ none := by
  have hi := (List.getElem?_eq_some_iff.mp h).1
  have hc : k < cs.length := by rw [← s.la]; exact hi
  exact (s.ch k a _ h (List.getElem?_eq_getElem hc)).there
theorem same_up {B H : Hp} {p : Addr} {o : HO} (e : Same B H) (h : H p = none) : Same B (upd B p o) := fun b u q => by
  rw [upd_ne (ne_of_none (e _ _ q) h)]
  exact q
theorem St.tup {p : Addr} {o : HO} (s : St K F B H A env cs σ) (h : H p = none) : St K F (upd B p o) (upd H p o) A env cs σ := by
  have sb : Same B (upd B p o) := same_up s.eb h
  have nA : ∀ (k : Nat) (a : Addr), A[k]? = some a → a ≠ p := fun k a q z => s.there q (by rw [z]; exact h)
  refine ⟨fun b u q => ?_, fun b u q => ?_, fun b u q => ?_, s.la, s.nd, fun k a q => ⟨?_, (s.ca k a q).2⟩, fun k a c q r => ?_, RpOs.mono sb (Pre.refl A) s.sl, s.tb.step sb fun P ps h1 h2 h3 h4 => ⟨h2, by rw [upd_ne (ne_of_none h1 h)]; exact h3, h4, by rw [upd_ne (ne_of_none h1 h)]; exact h1⟩⟩
  · by_cases e : b = p
    · subst e
      rw [upd_same] at q ⊢
      exact q
    · rw [upd_ne e] at q ⊢
      exact s.eb _ _ q
  · rw [upd_ne (ne_of_none (s.ef _ _ q) h)]
    exact s.ef _ _ q
  · rw [upd_ne (ne_of_none (s.ef _ _ q) h)]
    exact s.bf _ _ q
  · rw [upd_ne (nA k a q)]
    exact (s.ca k a q).1
  · exact (s.ch k a c q r).mono sb (Pre.refl A) (upd_ne (nA k a q))
theorem St.new {p : Addr} {o : HO} {c : Cell} (s : St K F B H A env cs σ) (h : H p = none) (hc : CellOk K B (A ++ [p]) (upd H p o) p c) : St K F B (upd H p o) (A ++ [p]) env (cs ++ [c]) σ := by
  have nA : ∀ (k : Nat) (a : Addr), A[k]? = some a → a ≠ p := fun k a q z => s.there q (by rw [z]; exact h)
  have hb : B p = none := by
    cases e : B p with
    | none => rfl
    | some o =>
      have := s.eb _ _ e
      rw [h] at this
      cases this
  have hf : F p = none := by
    cases e : F p with
    | none => rfl
    | some o =>
      have := s.ef _ _ e
      rw [h] at this
      cases this
  have hk : ∀ (k : Nat) (a : Addr), (A ++ [p])[k]? = some a → A[k]? = some a ∨ (k = A.length ∧ a = p) := fun k a q => by
    by_cases hl : k < A.length
    · rw [List.getElem?_append_left hl] at q
      exact .inl q
    · rw [List.getElem?_append_right (by omega)] at q
      by_cases e : k = A.length
      · subst e
        rw [Nat.sub_self] at q
        exact .inr ⟨rfl, (Option.some.inj q).symm⟩
      · rw [List.getElem?_eq_none (by simp; omega)] at q
        cases q
  refine ⟨fun b u q => ?_, fun b u q => ?_, s.bf, by rw [List.length_append, List.length_append, s.la]; rfl, ?_, fun k a q => ?_, fun k a c' q r => ?_, RpOs.mono (Same.refl B) (Pre.app A [p]) s.sl, s.tb.step (Same.refl B) fun P ps h1 h2 h3 h4 => ⟨h2, h3, fun z => (List.mem_append.mp z).elim h4 fun z => ne_of_none h1 h (List.mem_singleton.mp z), by rw [upd_ne (ne_of_none h1 h)]; exact h1⟩⟩
  · rw [upd_ne (ne_of_none (s.eb _ _ q) h)]
    exact s.eb _ _ q
  · rw [upd_ne (ne_of_none (s.ef _ _ q) h)]
    exact s.ef _ _ q
  · rw [List.nodup_append]
    refine ⟨s.nd, by simp, fun a ha b hb' => ?_⟩
    obtain ⟨k, hk'⟩ := List.getElem?_of_mem ha
    have e : b = p := by simpa using hb'
    rw [e]
    exact nA k a hk'
  · rcases hk k a q with q | ⟨_, rfl⟩
    · exact s.ca k a q
    · exact ⟨hb, hf⟩
  · rcases hk k a q with q | ⟨e1, rfl⟩
    · have hl := (List.getElem?_eq_some_iff.mp q).1
      rw [List.getElem?_append_left (by rw [← s.la]; exact hl)] at r
      exact (s.ch k a c' q r).mono (Same.refl B) (Pre.app A [p]) (upd_ne (nA k a q))
    · rw [e1, s.la, List.getElem?_append_right (Nat.le_refl _), Nat.sub_self] at r
      have e := Option.some.inj (show some c = some c' from r)
      subst e
      exact hc
theorem St.put {k : Nat} {a : Addr} {o : HO} {c : Cell} (s : St K F B H A env cs σ) (ha : A[k]? = some a) (hc : CellOk K B A (upd H a o) a c) : St K F B (upd H a o) A env (cs.set k c) σ := by
  have hb := s.ca k a ha
  refine ⟨fun b u q => ?_, fun b u q => ?_, s.bf, by rw [List.length_set]; exact s.la, s.nd, s.ca, fun j b c' q r => ?_, s.sl, s.tb.step (Same.refl B) fun P ps h1 h2 h3 h4 => ⟨h2, h3, h4, by rw [upd_ne (fun z => h4 (by rw [z]; exact List.mem_of_getElem? ha))]; exact h1⟩⟩
  · rw [upd_ne (fun z => by rw [z, hb.1] at q; cases q)]
    exact s.eb _ _ q
  · rw [upd_ne (fun z => by rw [z, hb.2] at q; cases q)]
    exact s.ef _ _ q
  · by_cases e : j = k
    · subst e
      have e1 : b = a := Option.some.inj (q.symm.trans ha)
      subst e1
      have hl : j < cs.length := by rw [← s.la]; exact (List.getElem?_eq_some_iff.mp ha).1
      rw [List.getElem?_set_self hl] at r
      have e2 := Option.some.inj r
      subst e2
      exact hc
    · rw [List.getElem?_set_ne (fun z => e z.symm)] at r
      have nb : b ≠ a := fun z => by
        subst z
        have h1 := (List.getElem?_eq_some_iff.mp q)
        have h2 := (List.getElem?_eq_some_iff.mp ha)
        exact e ((List.getElem_inj s.nd).mp (h1.2.trans h2.2.symm))
      exact (s.ch j b c' q r).mono (Same.refl B) (Pre.refl A) (upd_ne nb)
end
end G
namespace G
open PySem PySem.Spec PyProof.Rows L2
/-! ### what is wanted behind an expression, a statement -/
section
variable (K : PySem.W.Frag)
def Po (F : Hp) (env : Env) (σ : L2.St) (B : Hp) (A : List Addr) (Φ : Vl → List Cell → Prop) (Q : VK) : Prop :=
  ∀ x cs' v B' H' A', Φ x cs' → Same B B' → Pre A A' → St K F B' H' A' env cs' σ → RpV K B' A' x v → Q v H'
def wpE (te : TE) (env : Env) (cs : List Cell) (Φ : Vl → List Cell → Prop) : Prop :=
  ∀ F B H A σ, St K F B H A env cs σ → ∀ Q : VK, Po K F env σ B A Φ Q → te σ H Q
def PoT (F : Hp) (env : Env) (σ : L2.St) (B : Hp) (A : List Addr) (Φ : Bool → List Cell → Prop) (Q : Bool → Hp → Prop) : Prop :=
  ∀ b cs' B' H' A', Φ b cs' → Same B B' → Pre A A' → St K F B' H' A' env cs' σ → Q b H'
def wpT (tt : TT) (env : Env) (cs : List Cell) (Φ : Bool → List Cell → Prop) : Prop :=
  ∀ F B H A σ, St K F B H A env cs σ → ∀ Q, PoT K F env σ B A Φ Q → tt σ H Q
def PoA (F : Hp) (env : Env) (σ : L2.St) (B : Hp) (A : List Addr) (Φ : List Vl → List Cell → Prop) (Q : List V → Hp → Prop) : Prop :=
  ∀ xs cs' vs B' H' A', Φ xs cs' → Same B B' → Pre A A' → St K F B' H' A' env cs' σ → RpVs K B' A' xs vs → Q vs H'
def wpA (ta : TA) (env : Env) (cs : List Cell) (Φ : List Vl → List Cell → Prop) : Prop :=
  ∀ F B H A σ, St K F B H A env cs σ → ∀ Q, PoA K F env σ B A Φ Q → ta σ H Q
def wpO (to : TO) (env : Env) (cs : List Cell) (Φ : Option Int → List Cell → Prop) : Prop :=
  ∀ F B H A σ, St K F B H A env cs σ → ∀ Q : Option Int → Hp → Prop, (∀ o cs' B' H' A', Φ o cs' → Same B B' → Pre A A' → St K F B' H' A' env cs' σ → Q o H') → to σ H Q
/-- by values -/
def wpR (r : R2) (x y : Vl) (env : Env) (cs : List Cell) (Φ : Vl → List Cell → Prop) : Prop :=
  ∀ F B H A σ v w, St K F B H A env cs σ → RpV K B A x v → RpV K B A y w → ∀ Q : VK, Po K F env σ B A Φ Q → r v w H Q
def wpU (r : V → Hp → VK → Prop) (x : Vl) (env : Env) (cs : List Cell) (Φ : Vl → List Cell → Prop) : Prop :=
  ∀ F B H A σ v, St K F B H A env cs σ → RpV K B A x v → ∀ Q : VK, Po K F env σ B A Φ Q → r v H Q
def wpC (r : List V → Hp → VK → Prop) (xs : List Vl) (env : Env) (cs : List Cell) (Φ : Vl → List Cell → Prop) : Prop :=
  ∀ F B H A σ vs, St K F B H A env cs σ → RpVs K B A xs vs → ∀ Q : VK, Po K F env σ B A Φ Q → r vs H Q
def wpM (r : V → List V → Hp → VK → Prop) (x : Vl) (xs : List Vl) (env : Env) (cs : List Cell) (Φ : Vl → List Cell → Prop) : Prop :=
  ∀ F B H A σ v vs, St K F B H A env cs σ → RpV K B A x v → RpVs K B A xs vs → ∀ Q : VK, Po K F env σ B A Φ Q → r v vs H Q
def wpX (r : V → Option Int → Option Int → Hp → VK → Prop) (x : Vl) (lo hi : Option Int) (env : Env) (cs : List Cell) (Φ : Vl → List Cell → Prop) : Prop :=
  ∀ F B H A σ v, St K F B H A env cs σ → RpV K B A x v → ∀ Q : VK, Po K F env σ B A Φ Q → r v lo hi H Q
/-- statements -/
structure AE where
  nx : Env → List Cell → Prop
  rt : Vl → List Cell → Prop
  bk : Env → List Cell → Prop := fun _ _ => False
  ct : Env → List Cell → Prop := fun _ _ => False
def PoN (F B : Hp) (A : List Addr) (Φ : Env → List Cell → Prop) (N : L2.St → Hp → Prop) : Prop :=
  ∀ env' cs' σ' B' H' A', Φ env' cs' → Same B B' → Pre A A' → St K F B' H' A' env' cs' σ' → N σ' H'
def PoR (F B : Hp) (A : List Addr) (Φ : Vl → List Cell → Prop) (Q : VK) : Prop :=
  ∀ x cs' v env' σ' B' H' A', Φ x cs' → Same B B' → Pre A A' → St K F B' H' A' env' cs' σ' → RpV K B' A' x v → Q v H'
def wpS (ts : TS) (env : Env) (cs : List Cell) (a : AE) : Prop :=
  ∀ F B H A σ, St K F B H A env cs σ → ∀ D : Ends, PoN K F B A a.nx D.nx → PoR K F B A a.rt D.rt → PoN K F B A a.bk D.bk → PoN K F B A a.ct D.ct → ts D σ H
def wpG (g : TG) (x : Vl) (env : Env) (cs : List Cell) (Φ : Env → List Cell → Prop) : Prop :=
  ∀ F B H A σ v, St K F B H A env cs σ → RpV K B A x v → ∀ N, PoN K F B A Φ N → g v σ H N
def wpGs (g : TGs) (xs : List Vl) (env : Env) (cs : List Cell) (Φ : Env → List Cell → Prop) : Prop :=
  ∀ F B H A σ vs, St K F B H A env cs σ → RpVs K B A xs vs → ∀ N, PoN K F B A Φ N → g vs σ H N
end
section
variable {K : PySem.W.Frag} {F B B' H : Hp} {A A' : List Addr} {env : Env} {cs : List Cell} {σ : L2.St} {Φ Ψ : Vl → List Cell → Prop} {Q : VK} {ta tb tc te : TE} {x y : Vl}
theorem Po.on (q : Po K F env σ B A Φ Q) (e : Same B B') (p : Pre A A') : Po K F env σ B' A' Φ Q := fun x cs' v B2 H2 A2 f e2 p2 s r => q x cs' v B2 H2 A2 f (e.trans e2) (p.trans p2) s r
theorem Po.now {v : V} (q : Po K F env σ B A Φ Q) (s : St K F B H A env cs σ) (r : RpV K B A x v) (f : Φ x cs) : Q v H := q x cs v B H A f (Same.refl B) (Pre.refl A) s r
theorem Po.tupF {p : Addr} {o : Obj} {vs : List V} {ds : List D} (q : Po K F env σ B A Φ Q) (s : St K F B H A env cs σ) (hp : H p = none) (r : RpL K B ds vs) (f : Φ (.dat (.tuple ds)) cs) : Q (.ref p) (upd H p (.frz o (.tup vs))) := by
  have sb : Same B (upd B p (.frz o (.tup vs))) := same_up s.eb hp
  exact q _ cs _ _ _ A f sb (Pre.refl A) (s.tup hp) ⟨p, vs, rfl, .inl (.inr ⟨o, upd_same⟩), r.mono sb⟩
theorem Po.tup {p : Addr} {vs : List V} {ds : List D} (q : Po K F env σ B A Φ Q) (s : St K F B H A env cs σ) (hp : H p = none) (r : RpL K B ds vs) (f : Φ (.dat (.tuple ds)) cs) : Q (.ref p) (upd H p (.tup vs)) := by
  have sb : Same B (upd B p (.tup vs)) := same_up s.eb hp
  exact q _ cs _ _ _ A f sb (Pre.refl A) (s.tup hp) ⟨p, vs, rfl, SqT.of upd_same, r.mono sb⟩
theorem Po.lst {p : Addr} {vs : List V} {xs : List Vl} (q : Po K F env σ B A Φ Q) (s : St K F B H A env cs σ) (hp : H p = none) (r : RpVs K B A xs vs) (f : Φ (.cel cs.length) (cs ++ [.lst xs])) : Q (.ref p) (upd H p (.lst vs)) := by
  refine q _ _ _ B _ (A ++ [p]) f (Same.refl B) (Pre.app A [p]) (s.new hp ⟨vs, upd_same, RpVs.mono (Same.refl B) (Pre.app A [p]) r⟩) ⟨p, ?_, rfl⟩
  rw [← s.la, List.getElem?_append_right (Nat.le_refl _), Nat.sub_self]
  rfl
theorem wpE.mono (h : wpE K te env cs Φ) (k : ∀ x c, Φ x c → Ψ x c) : wpE K te env cs Ψ := fun F B H A σ s Q q => h F B H A σ s Q fun x cs' v B' H' A' f => q x cs' v B' H' A' (k x cs' f)
/-! ### expressions -/
theorem we_var {i : Nat} (h : env[i]? = some (some x)) (f : Φ x cs) : wpE K (tVar i) env cs Φ := fun F B H A σ s Q q => by
  obtain ⟨o, ho, r⟩ := Paired.get' s.sl h
  cases o with
  | none => exact r.elim
  | some v => exact ⟨v, ho, q.now s r f⟩
theorem we_con {d : D} {v : V} (h : ∀ B, Rp K B d v) (f : Φ (.dat d) cs) : wpE K (tC v) env cs Φ := fun F B H A σ s Q q => q.now s (x := .dat d) (h B) f
theorem we_int {i : Int} (f : Φ (.dat (.int i)) cs) : wpE K (tC (.int i)) env cs Φ := we_con (d := .int i) (fun _ => rfl) f
theorem we_bl {i : Bool} (f : Φ (.dat (.bool i)) cs) : wpE K (tC (.bl i)) env cs Φ := we_con (d := .bool i) (fun _ => rfl) f
theorem we_str {i : Str} (f : Φ (.dat (.str i)) cs) : wpE K (tC (.str i)) env cs Φ := we_con (d := .str i) (fun _ => rfl) f
theorem we_non (f : Φ (.dat .none) cs) : wpE K (tC .non) env cs Φ := we_con (d := .none) (fun _ => rfl) f
theorem we_op {r : R2} (h : wpE K ta env cs fun x c1 => wpE K tb env c1 fun y c2 => wpR K r x y env c2 Φ) : wpE K (tOp r ta tb) env cs Φ := fun F B H A σ s Q q =>
  h F B H A σ s _ fun x c1 v B1 H1 A1 f e1 p1 s1 r1 => f F B1 H1 A1 σ s1 _ fun y c2 w B2 H2 A2 g e2 p2 s2 r2 =>
    g F B2 H2 A2 σ v w s2 (r1.mono e2 p2) r2 Q (q.on (e1.trans e2) (p1.trans p2))
theorem we_un {r : V → Hp → VK → Prop} (h : wpE K ta env cs fun x c1 => wpU K r x env c1 Φ) : wpE K (tUn r ta) env cs Φ := fun F B H A σ s Q q =>
  h F B H A σ s _ fun x c1 v B1 H1 A1 f e1 p1 s1 r1 => f F B1 H1 A1 σ v s1 r1 Q (q.on e1 p1)
theorem we_cb {r : List V → Hp → VK → Prop} {ta : TA} (h : wpA K ta env cs fun xs c1 => wpC K r xs env c1 Φ) : wpE K (tCB r ta) env cs Φ := fun F B H A σ s Q q =>
  h F B H A σ s _ fun xs c1 vs B1 H1 A1 f e1 p1 s1 r1 => f F B1 H1 A1 σ vs s1 r1 Q (q.on e1 p1)
theorem wa_nil {Φ : List Vl → List Cell → Prop} (f : Φ [] cs) : wpA K tNil env cs Φ := fun F B H A σ s Q q => q [] cs [] B H A f (Same.refl B) (Pre.refl A) s .nil
theorem wa_cons {Φ : List Vl → List Cell → Prop} {tr : TA} (h : wpE K te env cs fun x c1 => wpA K tr env c1 fun xs c2 => Φ (x :: xs) c2) : wpA K (tCons te tr) env cs Φ := fun F B H A σ s Q q =>
  h F B H A σ s _ fun x c1 v B1 H1 A1 f e1 p1 s1 r1 => f F B1 H1 A1 σ s1 _ fun xs c2 vs B2 H2 A2 g e2 p2 s2 r2 =>
    q _ c2 _ B2 H2 A2 g (e1.trans e2) (p1.trans p2) s2 (.cons (r1.mono e2 p2) r2)
/-- and, or, not of truths -/
theorem we_and (h : wpE K ta env cs fun x c1 => ∃ b, x = .dat (.bool b) ∧ (b = true → wpE K tb env c1 Φ) ∧ (b = false → Φ (.dat (.bool false)) c1)) : wpE K (tAndV ta tb) env cs Φ := fun F B H A σ s Q q =>
  h F B H A σ s _ fun x c1 v B1 H1 A1 f e1 p1 s1 r1 => by
    obtain ⟨b, rfl, h1, h2⟩ := f
    have e : v = .bl b := r1
    refine ⟨b, e, ?_⟩
    cases b with
    | true => exact h1 rfl F B1 H1 A1 σ s1 Q (q.on e1 p1)
    | false => exact (q.on e1 p1).now s1 (x := .dat (.bool false)) rfl (h2 rfl)
theorem we_or (h : wpE K ta env cs fun x c1 => ∃ b, x = .dat (.bool b) ∧ (b = false → wpE K tb env c1 Φ) ∧ (b = true → Φ (.dat (.bool true)) c1)) : wpE K (tOrV ta tb) env cs Φ := fun F B H A σ s Q q =>
  h F B H A σ s _ fun x c1 v B1 H1 A1 f e1 p1 s1 r1 => by
    obtain ⟨b, rfl, h1, h2⟩ := f
    have e : v = .bl b := r1
    refine ⟨b, e, ?_⟩
    cases b with
    | false => exact h1 rfl F B1 H1 A1 σ s1 Q (q.on e1 p1)
    | true => exact (q.on e1 p1).now s1 (x := .dat (.bool true)) rfl (h2 rfl)
theorem we_not (h : wpE K ta env cs fun x c1 => ∃ b, x = .dat (.bool b) ∧ Φ (.dat (.bool (!b))) c1) : wpE K (tNotV ta) env cs Φ := fun F B H A σ s Q q =>
  h F B H A σ s _ fun x c1 v B1 H1 A1 f e1 p1 s1 r1 => by
    obtain ⟨b, rfl, h1⟩ := f
    exact ⟨b, r1, (q.on e1 p1).now s1 (x := .dat (.bool (!b))) rfl h1⟩
theorem we_if {tt : TT} (h : wpT K tt env cs fun b c1 => (b = true → wpE K ta env c1 Φ) ∧ (b = false → wpE K tb env c1 Φ)) : wpE K (tIf tt ta tb) env cs Φ := fun F B H A σ s Q q =>
  h F B H A σ s _ fun b c1 B1 H1 A1 f e1 p1 s1 => by
    cases b with
    | true => exact f.1 rfl F B1 H1 A1 σ s1 Q (q.on e1 p1)
    | false => exact f.2 rfl F B1 H1 A1 σ s1 Q (q.on e1 p1)
theorem we_tup {ta : TA} (h : wpA K ta env cs fun xs c1 => ∃ ds : List D, xs = ds.map .dat ∧ ds.length ≤ 100000 ∧ Φ (.dat (.tuple ds)) c1) : wpE K (tTup ta) env cs Φ := fun F B H A σ s Q q =>
  h F B H A σ s _ fun xs c1 vs B1 H1 A1 f e1 p1 s1 r1 => by
    obtain ⟨ds, rfl, hl, f⟩ := f
    have rr := RpVs.dats r1
    refine ⟨by rw [rr.length]; exact Nat.le_trans hl (by decide), fun p hp => (q.on e1 p1).tup s1 hp rr f⟩
theorem we_lst {ta : TA} (h : wpA K ta env cs fun xs c1 => xs.length ≤ 100000 ∧ Φ (.cel c1.length) (c1 ++ [.lst xs])) : wpE K (tLst ta) env cs Φ := fun F B H A σ s Q q =>
  h F B H A σ s _ fun xs c1 vs B1 H1 A1 f e1 p1 s1 r1 => by
    refine ⟨by rw [← Paired.length r1]; exact Nat.le_trans f.1 (by decide), fun p hp => (q.on e1 p1).lst s1 hp r1 f.2⟩
theorem we_chain {r r' : R2} (h : wpE K ta env cs fun x c1 => wpE K tb env c1 fun y c2 => wpR K r x y env c2 fun z c3 => ∃ b, z = .dat (.bool b) ∧ (b = true → wpE K tc env c3 fun w c4 => wpR K r' y w env c4 Φ) ∧ (b = false → Φ (.dat (.bool false)) c3)) :
    wpE K (tChain r r' ta tb tc) env cs Φ := fun F B H A σ s Q q =>
  h F B H A σ s _ fun x c1 v B1 H1 A1 f e1 p1 s1 r1 => f F B1 H1 A1 σ s1 _ fun y c2 w B2 H2 A2 g e2 p2 s2 r2 =>
    g F B2 H2 A2 σ v w s2 (r1.mono e2 p2) r2 _ fun z c3 u B3 H3 A3 g3 e3 p3 s3 r3 => by
      obtain ⟨b, rfl, h1, h2⟩ := g3
      refine ⟨b, r3, ?_⟩
      have q3 := q.on ((e1.trans e2).trans e3) ((p1.trans p2).trans p3)
      cases b with
      | true => exact h1 rfl F B3 H3 A3 σ s3 _ fun t c4 u4 B4 H4 A4 g4 e4 p4 s4 r4 => g4 F B4 H4 A4 σ w u4 s4 (r2.mono (e3.trans e4) (p3.trans p4)) r4 Q (q3.on e4 p4)
      | false => exact q3.now s3 (x := .dat (.bool false)) rfl (h2 rfl)
/-! ### tests -/
theorem wt_B {Φ : Bool → List Cell → Prop} (h : wpE K te env cs fun x c1 => ∃ b, x = .dat (.bool b) ∧ Φ b c1) : wpT K (tB te) env cs Φ := fun F B H A σ s Q q =>
  h F B H A σ s _ fun x c1 v B1 H1 A1 f e1 p1 s1 r1 => by
    obtain ⟨b, rfl, f⟩ := f
    exact ⟨b, r1, q b c1 B1 H1 A1 f e1 p1 s1⟩
theorem wt_test {Φ : Bool → List Cell → Prop} (h : wpE K te env cs fun x c1 => ∃ b, x = .dat (.bool b) ∧ Φ b c1) : wpT K (tTest te) env cs Φ := fun F B H A σ s Q q =>
  h F B H A σ s _ fun x c1 v B1 H1 A1 f e1 p1 s1 r1 => by
    obtain ⟨b, rfl, f⟩ := f
    exact ⟨b, r1, q b c1 B1 H1 A1 f e1 p1 s1⟩
theorem wt_and {t u : TT} {Φ : Bool → List Cell → Prop} (h : wpT K t env cs fun b c1 => (b = true → wpT K u env c1 Φ) ∧ (b = false → Φ false c1)) : wpT K (tAnd t u) env cs Φ := fun F B H A σ s Q q =>
  h F B H A σ s _ fun b c1 B1 H1 A1 f e1 p1 s1 => by
    cases b with
    | true => exact f.1 rfl F B1 H1 A1 σ s1 Q fun b c2 B2 H2 A2 g e2 p2 => q b c2 B2 H2 A2 g (e1.trans e2) (p1.trans p2)
    | false => exact q _ c1 B1 H1 A1 (f.2 rfl) e1 p1 s1
theorem wt_or {t u : TT} {Φ : Bool → List Cell → Prop} (h : wpT K t env cs fun b c1 => (b = false → wpT K u env c1 Φ) ∧ (b = true → Φ true c1)) : wpT K (tOr t u) env cs Φ := fun F B H A σ s Q q =>
  h F B H A σ s _ fun b c1 B1 H1 A1 f e1 p1 s1 => by
    cases b with
    | false => exact f.1 rfl F B1 H1 A1 σ s1 Q fun b c2 B2 H2 A2 g e2 p2 => q b c2 B2 H2 A2 g (e1.trans e2) (p1.trans p2)
    | true => exact q _ c1 B1 H1 A1 (f.2 rfl) e1 p1 s1
theorem wt_not {t : TT} {Φ : Bool → List Cell → Prop} (h : wpT K t env cs fun b c1 => Φ (!b) c1) : wpT K (tNot t) env cs Φ := fun F B H A σ s Q q =>
  h F B H A σ s _ fun b c1 B1 H1 A1 f e1 p1 s1 => q _ c1 B1 H1 A1 f e1 p1 s1
/-! ### operators by values -/
theorem wr_I0i {g : Int → Int → Int} {i j : Int} (hx : x = .dat (.int i)) (hy : y = .dat (.int j)) (f : Φ (.dat (.int (g i j))) cs) : wpR K (rI0 fun i j => .int (g i j)) x y env cs Φ := fun F B H A σ v w s r1 r2 Q q => by
  subst hx hy
  exact ⟨i, j, r1, r2, q.now s (x := .dat (.int (g i j))) rfl f⟩
theorem wr_I0b {g : Int → Int → Bool} {i j : Int} (hx : x = .dat (.int i)) (hy : y = .dat (.int j)) (f : Φ (.dat (.bool (g i j))) cs) : wpR K (rI0 fun i j => .bl (g i j)) x y env cs Φ := fun F B H A σ v w s r1 r2 Q q => by
  subst hx hy
  exact ⟨i, j, r1, r2, q.now s (x := .dat (.bool (g i j))) rfl f⟩
theorem wr_Ii {C : Int → Int → Prop} {g : Int → Int → Int} {i j : Int} (hx : x = .dat (.int i)) (hy : y = .dat (.int j)) (hc : C i j) (f : Φ (.dat (.int (g i j))) cs) : wpR K (rI C fun i j => .int (g i j)) x y env cs Φ := fun F B H A σ v w s r1 r2 Q q => by
  subst hx hy
  exact ⟨i, j, r1, r2, hc, q.now s (x := .dat (.int (g i j))) rfl f⟩
theorem wu_I {g : Int → Int} {i : Int} (hx : x = .dat (.int i)) (f : Φ (.dat (.int (g i))) cs) : wpU K (rU fun i => .int (g i)) x env cs Φ := fun F B H A σ v s r1 Q q => by
  subst hx
  exact ⟨i, r1, q.now s (x := .dat (.int (g i))) rfl f⟩
end
/-! ### statements -/
section
variable {K : PySem.W.Frag} {env : Env} {cs : List Cell} {te : TE} {tt : TT} {t u : TS} {g : TG} {a : AE}
theorem PoN.on {F B B' : Hp} {A A' : List Addr} {Φ : Env → List Cell → Prop} {N : L2.St → Hp → Prop} (q : PoN K F B A Φ N) (e : Same B B') (p : Pre A A') : PoN K F B' A' Φ N := fun env' cs' σ' B2 H2 A2 f e2 p2 s => q env' cs' σ' B2 H2 A2 f (e.trans e2) (p.trans p2) s
theorem PoR.on {F B B' : Hp} {A A' : List Addr} {Φ : Vl → List Cell → Prop} {Q : VK} (q : PoR K F B A Φ Q) (e : Same B B') (p : Pre A A') : PoR K F B' A' Φ Q := fun x cs' v env' σ' B2 H2 A2 f e2 p2 s r => q x cs' v env' σ' B2 H2 A2 f (e.trans e2) (p.trans p2) s r
theorem PoN.imp {F B : Hp} {A : List Addr} {Φ Ψ : Env → List Cell → Prop} {N : L2.St → Hp → Prop} (q : PoN K F B A Φ N) (h : ∀ e c, Ψ e c → Φ e c) : PoN K F B A Ψ N := fun env' cs' σ' B2 H2 A2 f => q env' cs' σ' B2 H2 A2 (h _ _ f)
theorem ws_mono {b : AE} (h : wpS K t env cs a) (h1 : ∀ e c, a.nx e c → b.nx e c) (h2 : ∀ x c, a.rt x c → b.rt x c) (h3 : ∀ e c, a.bk e c → b.bk e c) (h4 : ∀ e c, a.ct e c → b.ct e c) : wpS K t env cs b := fun F B H A σ s D q1 q2 q3 q4 =>
  h F B H A σ s D (q1.imp h1) (fun x cs' v env' σ' B' H' A' f => q2 x cs' v env' σ' B' H' A' (h2 _ _ f)) (q3.imp h3) (q4.imp h4)
theorem ws_next (f : a.nx env cs) : wpS K tNext env cs a := fun F B H A σ s D q1 _ _ _ => q1 env cs σ B H A f (Same.refl B) (Pre.refl A) s
theorem ws_seq (h : wpS K t env cs { a with nx := fun e c => wpS K u e c a }) : wpS K (tSeq t u) env cs a := fun F B H A σ s D q1 q2 q3 q4 =>
  h F B H A σ s { D with nx := u D } (fun env' cs' σ' B' H' A' f e p s' => f F B' H' A' σ' s' D (q1.on e p) (q2.on e p) (q3.on e p) (q4.on e p)) q2 q3 q4
theorem ws_asg (h : wpE K te env cs fun x c => wpG K g x env c a.nx) : wpS K (tAsg te g) env cs a := fun F B H A σ s D q1 _ _ _ =>
  h F B H A σ s _ fun x c v B' H' A' f e p s' r => f F B' H' A' σ v s' r _ (q1.on e p)
theorem ws_drop (h : wpE K te env cs fun x c => a.nx env c) : wpS K (tDrop te) env cs a := fun F B H A σ s D q1 _ _ _ =>
  h F B H A σ s _ fun x c v B' H' A' f e p s' r => q1 env c σ B' H' A' f e p s'
theorem ws_ret (h : wpE K te env cs a.rt) : wpS K (tRet te) env cs a := fun F B H A σ s D _ q2 _ _ =>
  h F B H A σ s _ fun x c v B' H' A' f e p s' r => q2 x c v env σ B' H' A' f e p s' r
theorem ws_if (h : wpT K tt env cs fun b c => (b = true → wpS K t env c a) ∧ (b = false → wpS K u env c a)) : wpS K (tIfS tt t u) env cs a := fun F B H A σ s D q1 q2 q3 q4 =>
  h F B H A σ s _ fun b c B' H' A' f e p s' => by
    cases b with
    | true => exact f.1 rfl F B' H' A' σ s' D (q1.on e p) (q2.on e p) (q3.on e p) (q4.on e p)
    | false => exact f.2 rfl F B' H' A' σ s' D (q1.on e p) (q2.on e p) (q3.on e p) (q4.on e p)
/-! ### targets -/
theorem wg_name {i : Nat} {x : Vl} {Φ : Env → List Cell → Prop} (f : Φ (env.set i (some x)) cs) : wpG K (gName i) x env cs Φ := fun F B H A σ v s r N q =>
  q _ cs _ B H A f (Same.refl B) (Pre.refl A) (s.withEnv (Paired.set' (show RpO K B A (some x) (some v) from r) i s.sl))
theorem wgs_nil {Φ : Env → List Cell → Prop} (f : Φ env cs) : wpGs K gNil [] env cs Φ := fun F B H A σ vs s r N q => by
  cases r
  exact ⟨rfl, q env cs σ B H A f (Same.refl B) (Pre.refl A) s⟩
theorem wgs_cons {x : Vl} {xs : List Vl} {gs : TGs} {Φ : Env → List Cell → Prop} (h : wpG K g x env cs fun e c => wpGs K gs xs e c Φ) : wpGs K (gCons g gs) (x :: xs) env cs Φ := fun F B H A σ vs s r N q => by
  cases r with
  | cons r1 r2 => exact ⟨_, _, rfl, h F B H A σ _ s r1 _ fun env' cs' σ' B' H' A' f e p s' => f F B' H' A' σ' _ s' (RpVs.mono e p r2) N (q.on e p)⟩
theorem wg_tup {n : Nat} {gs : TGs} {x : Vl} {ds : List D} {Φ : Env → List Cell → Prop} (hx : x = .dat (.tuple ds)) (hn : ds.length = n) (h : wpGs K gs (ds.map .dat) env cs Φ) : wpG K (gTup K n gs) x env cs Φ := fun F B H A σ v s r N q => by
  subst hx
  obtain ⟨p, vs, rfl, hs, hr⟩ := r
  exact ⟨p, vs, rfl, sqT_mono s.eb hs, by rw [hr.length]; exact hn, h F B H A σ vs s (RpVs.of_dats hr) N q⟩
end
end G
namespace G
open PySem PySem.Spec PyProof.Rows L2
/-! ### letting cells go -/
def VlB (m : Nat) : Vl → Prop
  | .dat _ => True
  | .cel k => k < m
def EnvB (m : Nat) (e : Env) : Prop := ∀ x, some x ∈ e → VlB m x
def CellB (m : Nat) : Cell → Prop
  | .lst xs => ∀ x ∈ xs, VlB m x
  | .dct kvs => ∀ p ∈ kvs, VlB m p.2
  | .obj _ fs => ∀ p ∈ fs, VlB m p.2
  | .dcx _ kvs => ∀ p ∈ kvs, VlB m p.2
def CsB (m : Nat) (cs : List Cell) : Prop := ∀ c ∈ cs, CellB m c
theorem CsB.nil {m : Nat} : CsB m [] := fun _ h => by cases h
theorem CsB.cons {m : Nat} {c : Cell} {cs : List Cell} (h : CellB m c) (t : CsB m cs) : CsB m (c :: cs) := fun x hx => by
  rcases List.mem_cons.mp hx with e | hx
  · rw [e]
    exact h
  · exact t x hx
theorem EnvB.nil {m : Nat} : EnvB m [] := fun _ h => by cases h
theorem EnvB.none {m : Nat} {e : Env} (t : EnvB m e) : EnvB m (none :: e) := fun x hx => by
  rcases List.mem_cons.mp hx with e | hx
  · cases e
  · exact t x hx
theorem EnvB.dat {m : Nat} {e : Env} {d : D} (t : EnvB m e) : EnvB m (some (.dat d) :: e) := fun x hx => by
  rcases List.mem_cons.mp hx with e | hx
  · cases e
    trivial
  · exact t x hx
theorem EnvB.cel {m : Nat} {e : Env} {k : Nat} (h : k < m) (t : EnvB m e) : EnvB m (some (.cel k) :: e) := fun x hx => by
  rcases List.mem_cons.mp hx with e | hx
  · cases e
    exact h
  · exact t x hx
section
variable {K : PySem.W.Frag} {F B H : Hp} {A : List Addr} {env env' : Env} {cs : List Cell} {σ σ' : L2.St}
theorem take_get {A : List Addr} {m k : Nat} {a : Addr} : (A.take m)[k]? = some a ↔ k < m ∧ A[k]? = some a := by
  rw [List.getElem?_take]
  by_cases h : k < m
  · rw [if_pos h]
    exact ⟨fun q => ⟨h, q⟩, fun q => q.2⟩
  · rw [if_neg h]
    exact ⟨fun q => (by cases q), fun q => absurd q.1 h⟩
theorem RpV.cut {m : Nat} {x : Vl} {v : V} (h : RpV K B A x v) (b : VlB m x) : RpV K B (A.take m) x v := by
  cases x with
  | dat d => exact h
  | cel k =>
    obtain ⟨a, h1, h2⟩ := h
    exact ⟨a, take_get.mpr ⟨b, h1⟩, h2⟩
theorem Paired.mapM {α β : Type} {F G : α → β → Prop} : ∀ {l₁ : List α} {l₂ : List β}, Paired F l₁ l₂ → (∀ a b, a ∈ l₁ → F a b → G a b) → Paired G l₁ l₂
  | _, _, .nil, _ => .nil
  | _, _, .cons r t, f => .cons (f _ _ (List.mem_cons_self ..) r) (Paired.mapM t fun a b h => f a b (List.mem_cons_of_mem _ h))
theorem RpOs.cut {m : Nat} (h : RpOs K B A env σ) (b : EnvB m env) : RpOs K B (A.take m) env σ := Paired.mapM h fun x v hx r => by
  cases x with
  | none => trivial
  | some x => cases v with
    | none => exact r.elim
    | some v => exact RpV.cut (show RpV K B A x v from r) (b x hx)
theorem CellOk.cut {m : Nat} {a : Addr} {c : Cell} (h : CellOk K B A H a c) (b : CellB m c) : CellOk K B (A.take m) H a c := by
  cases c with
  | lst xs =>
    obtain ⟨vs, h1, h2⟩ := h
    exact ⟨vs, h1, Paired.mapM h2 fun x v hx r => RpV.cut r (b x hx)⟩
  | dct kvs =>
    obtain ⟨vs, h1, h2⟩ := h
    exact ⟨vs, h1, Paired.mapM h2 fun x v hx r => ⟨r.1, RpV.cut r.2 (b x hx)⟩⟩
  | obj C fs =>
    obtain ⟨dx, vs, h1, h2⟩ := h
    exact ⟨dx, vs, h1, Paired.mapM h2 fun x v hx r => ⟨r.1, RpV.cut r.2 (b x hx)⟩⟩
  | dcx o kvs =>
    obtain ⟨vs, h1, h2⟩ := h
    exact ⟨vs, h1, Paired.mapM h2 fun x v hx r => ⟨r.1, RpV.cut r.2 (b x hx)⟩⟩
theorem St.take {m : Nat} (s : St K F B H A env cs σ) (hb : CsB m (cs.take m)) (h : RpOs K B (A.take m) env' σ') : St K F B H (A.take m) env' (cs.take m) σ' := by
  refine ⟨s.eb, s.ef, s.bf, by rw [List.length_take, List.length_take, s.la], s.nd.sublist (List.take_sublist _ _), fun k a q => s.ca k a (take_get.mp q).2, fun k a c q r => ?_, h, s.tb.nA fun a ha => .inl (List.mem_of_mem_take ha)⟩
  have r' : c ∈ cs.take m := List.mem_of_getElem? r
  rw [List.getElem?_take] at r
  rw [take_get] at q
  rw [if_pos q.1] at r
  exact (s.ch k a c q.2 r).cut (hb c r')
/-- the k-th cell, a list of data, is not changed any more -/
theorem St.fz {k m : Nat} {a : Addr} {ds : List D} (s : St K F B H A env cs σ) (ha : A[k]? = some a) (hc : cs[k]? = some (.lst (ds.map .dat))) (hm : m ≤ k) (hb : CsB m (cs.take m)) (h : RpOs K B (A.take m) env' σ') :
    ∃ vs, H a = some (.lst vs) ∧ RpL K B ds vs ∧ St K F (upd B a (.lst vs)) H (A.take m) env' (cs.take m) σ' ∧ Same B (upd B a (.lst vs)) := by
  obtain ⟨vs, h1, h2⟩ := s.ch k a _ ha hc
  have hba := s.ca k a ha
  have sb : Same B (upd B a (.lst vs)) := fun b u q => by
    rw [upd_ne (fun z => by rw [z, hba.1] at q; cases q)]
    exact q
  have s1 := s.take hb h
  have nA : ∀ (j : Nat) (b : Addr), (A.take m)[j]? = some b → b ≠ a := fun j b q z => by
    subst z
    have q2 := take_get.mp q
    have e1 := List.getElem?_eq_some_iff.mp q2.2
    have e2 := List.getElem?_eq_some_iff.mp ha
    have e3 := (List.getElem_inj s.nd).mp (e1.2.trans e2.2.symm)
    omega
  refine ⟨vs, h1, RpVs.dats h2, ⟨fun b u q => ?_, s1.ef, fun b u q => ?_, s1.la, s1.nd, fun j b q => ⟨?_, (s1.ca j b q).2⟩, fun j b c q r => (s1.ch j b c q r).mono sb (Pre.refl _) rfl, RpOs.mono sb (Pre.refl _) h, s.tb.step sb fun P ps g1 g2 g3 g4 => ⟨g2, by rw [upd_ne (fun z => g4 (by rw [z]; exact List.mem_of_getElem? ha))]; exact g3, fun z => g4 (List.mem_of_mem_take z), g1⟩⟩, sb⟩
  · by_cases e : b = a
    · subst e
      rw [upd_same] at q
      rw [h1, q]
    · rw [upd_ne e] at q
      exact s.eb _ _ q
  · rw [upd_ne (fun z => by rw [z, hba.2] at q; cases q)]
    exact s.bf _ _ q
  · rw [upd_ne (nA j b q)]
    exact (s1.ca j b q).1
/-- what others hold is changed by them -/
theorem St.fput {p : Addr} {o o' : HO} (s : St K (upd F p o) B H A env cs σ) : St K (upd F p o') B (upd H p o') A env cs σ := by
  have hb : B p = none := s.bf p o upd_same
  have nA : ∀ (k : Nat) (a : Addr), A[k]? = some a → a ≠ p := fun k a q z => by
    have := (s.ca k a q).2
    rw [z, upd_same] at this
    cases this
  refine ⟨fun b u q => ?_, fun b u q => ?_, fun b u q => ?_, s.la, s.nd, fun k a q => ⟨(s.ca k a q).1, ?_⟩, fun k a c q r => (s.ch k a c q r).mono (Same.refl B) (Pre.refl A) (upd_ne (nA k a q)), s.sl, s.tb.step (Same.refl B) fun P ps h1 h2 h3 h4 => by
    have n : P ≠ p := fun z => by
      rw [z, upd_same] at h2
      cases h2
    rw [upd_ne n] at h2 ⊢
    exact ⟨h2, h3, h4, by rw [upd_ne n]; exact h1⟩⟩
  · rw [upd_ne (fun z => by rw [z, hb] at q; cases q)]
    exact s.eb _ _ q
  · by_cases e : b = p
    · subst e
      rw [upd_same] at q ⊢
      exact q
    · rw [upd_ne e] at q ⊢
      exact s.ef b u (by rw [upd_ne e]; exact q)
  · by_cases e : b = p
    · rw [e]
      exact hb
    · exact s.bf b u (by rw [upd_ne e] at q ⊢; exact q)
  · have := (s.ca k a q).2
    rw [upd_ne (nA k a q)] at this ⊢
    exact this
/-- a new thing that is held elsewhere -/
theorem St.fnew {p : Addr} {o : HO} (s : St K F B H A env cs σ) (hp : H p = none) : St K (upd F p o) B (upd H p o) A env cs σ := by
  have hb : B p = none := by
    cases e : B p with
    | none => rfl
    | some u =>
      have := s.eb _ _ e
      rw [hp] at this
      cases this
  have nA : ∀ (k : Nat) (a : Addr), A[k]? = some a → a ≠ p := fun k a q z => s.there q (by rw [z]; exact hp)
  refine ⟨fun b u q => ?_, fun b u q => ?_, fun b u q => ?_, s.la, s.nd, fun k a q => ⟨(s.ca k a q).1, ?_⟩, fun k a c q r => (s.ch k a c q r).mono (Same.refl B) (Pre.refl A) (upd_ne (nA k a q)), s.sl, s.tb.step (Same.refl B) fun P ps h1 h2 h3 h4 => by
    have n : P ≠ p := ne_of_none h1 hp
    exact ⟨by rw [upd_ne n]; exact h2, h3, h4, by rw [upd_ne n]; exact h1⟩⟩
  · rw [upd_ne (fun z => by rw [z, hb] at q; cases q)]
    exact s.eb _ _ q
  · by_cases e : b = p
    · subst e
      rw [upd_same] at q ⊢
      exact q
    · rw [upd_ne e] at q ⊢
      exact s.ef b u q
  · by_cases e : b = p
    · rw [e]
      exact hb
    · exact s.bf b u (by rw [upd_ne e] at q; exact q)
  · rw [upd_ne (nA k a q)]
    exact (s.ca k a q).2
/-- a thing held elsewhere becomes a cell -/
theorem St.unf {p : Addr} {o : HO} {c : Cell} (s : St K (upd F p o) B H A env cs σ) (hf : F p = none) (hc : CellOk K B (A ++ [p]) H p c) : St K F B H (A ++ [p]) env (cs ++ [c]) σ := by
  have hb : B p = none := s.bf p o upd_same
  have nA : ∀ (k : Nat) (a : Addr), A[k]? = some a → a ≠ p := fun k a q z => by
    have := (s.ca k a q).2
    rw [z, upd_same] at this
    cases this
  have sf : ∀ b u, F b = some u → (upd F p o) b = some u := fun b u q => by
    rw [upd_ne (fun z => by rw [z, hf] at q; cases q)]
    exact q
  have hk : ∀ (k : Nat) (a : Addr), (A ++ [p])[k]? = some a → A[k]? = some a ∨ (k = A.length ∧ a = p) := fun k a q => by
    by_cases hl : k < A.length
    · rw [List.getElem?_append_left hl] at q
      exact .inl q
    · rw [List.getElem?_append_right (by omega)] at q
      by_cases e : k = A.length
      · subst e
        rw [Nat.sub_self] at q
        exact .inr ⟨rfl, (Option.some.inj q).symm⟩
      · rw [List.getElem?_eq_none (by simp; omega)] at q
        cases q
  refine ⟨s.eb, fun b u q => s.ef b u (sf b u q), fun b u q => s.bf b u (sf b u q), by rw [List.length_append, List.length_append, s.la]; rfl, ?_, fun k a q => ?_, fun k a c' q r => ?_, RpOs.mono (Same.refl B) (Pre.app A [p]) s.sl, s.tb.step (Same.refl B) fun P ps h1 h2 h3 h4 => by
    have n : P ≠ p := fun z => by
      rw [z, upd_same] at h2
      cases h2
    rw [upd_ne n] at h2
    exact ⟨h2, h3, fun z => (List.mem_append.mp z).elim h4 fun z => n (List.mem_singleton.mp z), h1⟩⟩
  · rw [List.nodup_append]
    refine ⟨s.nd, by simp, fun a ha b hb' => ?_⟩
    obtain ⟨k, hk'⟩ := List.getElem?_of_mem ha
    have e : b = p := by simpa using hb'
    rw [e]
    exact nA k a hk'
  · rcases hk k a q with q | ⟨_, rfl⟩
    · have := (s.ca k a q).2
      rw [upd_ne (nA k a q)] at this
      exact ⟨(s.ca k a q).1, this⟩
    · exact ⟨hb, hf⟩
  · rcases hk k a q with q | ⟨e1, rfl⟩
    · have hl := (List.getElem?_eq_some_iff.mp q).1
      rw [List.getElem?_append_left (by rw [← s.la]; exact hl)] at r
      exact (s.ch k a c' q r).mono (Same.refl B) (Pre.app A [p]) rfl
    · rw [e1, s.la, List.getElem?_append_right (Nat.le_refl _), Nat.sub_self] at r
      have e := Option.some.inj (show some c = some c' from r)
      subst e
      exact hc
theorem Pre.take {A A' : List Addr} {m : Nat} (p : Pre A A') (h : A.length ≤ m) : Pre A (A'.take m) := fun k a q => take_get.mpr ⟨by have := (List.getElem?_eq_some_iff.mp q).1; omega, p k a q⟩
theorem RpV.bound {x : Vl} {v : V} (h : RpV K B A x v) : VlB A.length x := by
  cases x with
  | dat d => trivial
  | cel k =>
    obtain ⟨a, h1, _⟩ := h
    exact (List.getElem?_eq_some_iff.mp h1).1
theorem Paired.left {α β : Type} {F : α → β → Prop} : ∀ {l₁ : List α} {l₂ : List β} {a : α}, Paired F l₁ l₂ → a ∈ l₁ → ∃ b, F a b
  | _, _, _, .nil, h => by cases h
  | _, _, a, .cons r t, h => by
    rcases List.mem_cons.mp h with e | h
    · rw [e]
      exact ⟨_, r⟩
    · exact Paired.left t h
/-- cells speak of cells that are there -/
theorem St.csb (s : St K F B H A env cs σ) : CsB cs.length cs := fun c hc => by
  obtain ⟨k, hk⟩ := List.getElem?_of_mem hc
  obtain ⟨a, ha, h⟩ := s.cell hk
  rw [← s.la]
  cases c with
  | lst xs =>
    obtain ⟨vs, _, r⟩ := h
    exact fun x hx => (Paired.left r hx).elim fun v q => RpV.bound q
  | dct xs =>
    obtain ⟨vs, _, r⟩ := h
    exact fun x hx => (Paired.left r hx).elim fun v q => RpV.bound q.2
  | obj C xs =>
    obtain ⟨dx, vs, _, r⟩ := h
    exact fun x hx => (Paired.left r hx).elim fun v q => RpV.bound q.2
  | dcx o xs =>
    obtain ⟨vs, _, r⟩ := h
    exact fun x hx => (Paired.left r hx).elim fun v q => RpV.bound q.2
/-- some slots are forgotten -/
def Wk : Env → Env → Prop
  | [], [] => True
  | x :: e, y :: e' => (y = none ∨ y = x) ∧ Wk e e'
  | _, _ => False
theorem Wk.rp {e : Env} : ∀ {e' : Env} {σ : L2.St}, Wk e e' → RpOs K B A e σ → RpOs K B A e' σ := by
  induction e with
  | nil =>
    intro e' σ h r
    cases e' with
    | nil => exact r
    | cons _ _ => exact h.elim
  | cons x e ih =>
    intro e' σ h r
    cases e' with
    | nil => exact h.elim
    | cons y e' =>
      cases r with
      | cons r1 r2 =>
        refine .cons ?_ (ih h.2 r2)
        rcases h.1 with q | q
        · rw [q]
          trivial
        · rw [q]
          exact r1
/-- P of the cells that are kept -/
def DT (m0 : Nat) (P : Env → List Cell → Prop) (e : Env) (c : List Cell) : Prop := P e c ∨ ∃ m e', m0 ≤ m ∧ Wk e e' ∧ EnvB m e' ∧ CsB m (c.take m) ∧ P e' (c.take m)
theorem PoN.dt {N : L2.St → Hp → Prop} {Φ : Env → List Cell → Prop} (q : PoN K F B A Φ N) {m0 : Nat} (hm : A.length ≤ m0) : PoN K F B A (DT m0 Φ) N := fun env' cs' σ' B' H' A' h e p s => by
  rcases h with f | ⟨m, e2, h1, hw, h2, h3, f⟩
  · exact q env' cs' σ' B' H' A' f e p s
  · exact q e2 _ σ' B' H' (A'.take m) f e (p.take (Nat.le_trans hm h1)) (s.take h3 (RpOs.cut (hw.rp s.sl) h2))
/-- only what is to be let go behind the statement -/
theorem ws_gcn {t : TS} {a : AE} (h : wpS K t env cs { a with nx := DT cs.length a.nx }) : wpS K t env cs a := fun F B H A σ s D q1 q2 q3 q4 =>
  h F B H A σ s D (q1.dt (Nat.le_of_eq s.la)) q2 q3 q4
end
/-! ### walks: a list of data, one a turn -/
section
variable (K : PySem.W.Frag)
def AW (B : Hp) (A : List Addr) (J : It) (ds : List D) (keep : List Cell → Prop) : Prop :=
  ∃ G Y, Walk J ds.length G Y ∧ (∀ F B2 H2 A2 env2 cs2 σ2, Same B B2 → Pre A A2 → St K F B2 H2 A2 env2 cs2 σ2 → keep cs2 → G H2) ∧
    ∀ i H2 x H3, i < ds.length → Y i H2 x H3 → ∀ F B2 A2 env2 cs2 σ2, Same B B2 → Pre A A2 → St K F B2 H2 A2 env2 cs2 σ2 → keep cs2 → ∃ B3 d, Same B2 B3 ∧ St K F B3 H3 A2 env2 cs2 σ2 ∧ ds[i]? = some d ∧ Rp K B3 d x
def wpI (ti : TI) (env : Env) (cs : List Cell) (Φ : List D → (List Cell → Prop) → List Cell → Prop) : Prop :=
  ∀ F B H A σ, St K F B H A env cs σ → ∀ R : It → Hp → Prop, (∀ ds keep cs' J B' H' A', Φ ds keep cs' → Same B B' → Pre A A' → St K F B' H' A' env cs' σ → AW K B' A' J ds keep → R J H') → ti σ H R
end
section
variable {K : PySem.W.Frag} {env : Env} {cs : List Cell} {te tl : TE} {tt : TT} {tb : TS} {g : TG} {a : AE} {ti : TI} {ta : TA}
theorem ws_for (h : wpI K ti env cs fun ds keep c => ∃ Inv : Nat → Env → List Cell → Prop, Inv 0 env c ∧ (∀ i e c, i ≤ ds.length → Inv i e c → keep c) ∧
      (∀ i d e c, ds[i]? = some d → Inv i e c → wpG K g (.dat d) e c fun e' c' => wpS K tb e' c' { a with nx := Inv (i + 1), ct := Inv (i + 1), bk := a.nx }) ∧ (∀ e c, Inv ds.length e c → a.nx e c)) :
    wpS K (tFor ti g tb) env cs a := fun F B H A σ s D q1 q2 q3 q4 => by
  refine h F B H A σ s _ fun ds keep c1 J B1 H1 A1 f e1 p1 s1 aw => ?_
  obtain ⟨Inv, i0, ik, it, ie⟩ := f
  obtain ⟨G, Y, w, hG, hY⟩ := aw
  refine for_it w (fun i σ' H' => ∃ env' cs' B' A', Inv i env' cs' ∧ Same B1 B' ∧ Pre A1 A' ∧ St K F B' H' A' env' cs' σ') ⟨env, c1, B1, A1, i0, Same.refl B1, Pre.refl A1, s1⟩ ?_ ?_ ?_
  · rintro i σ' H' hi ⟨env', cs', B', A', hI, e2, p2, s2⟩
    exact hG F B' H' A' env' cs' σ' e2 p2 s2 (ik i env' cs' hi hI)
  · rintro i x σ' H' H'' hi ⟨env', cs', B', A', hI, e2, p2, s2⟩ hy
    obtain ⟨B3, d, e3, s3, hd, hr⟩ := hY i H' x H'' hi hy F B' A' env' cs' σ' e2 p2 s2 (ik i env' cs' (Nat.le_of_lt hi) hI)
    refine it i d env' cs' hd hI F B3 H'' A' σ' x s3 hr _ fun env2 cs2 σ2 B4 H4 A4 f4 e4 p4 s4 => ?_
    have eA : Same B1 B4 := (e2.trans e3).trans e4
    have pA : Pre A1 A4 := p2.trans p4
    refine f4 F B4 H4 A4 σ2 s4 _ ?_ (q2.on (e1.trans eA) (p1.trans pA)) (q1.on (e1.trans eA) (p1.trans pA)) ?_
    · exact fun env5 cs5 σ5 B5 H5 A5 f5 e5 p5 s5 => ⟨env5, cs5, B5, A5, f5, eA.trans e5, pA.trans p5, s5⟩
    · exact fun env5 cs5 σ5 B5 H5 A5 f5 e5 p5 s5 => ⟨env5, cs5, B5, A5, f5, eA.trans e5, pA.trans p5, s5⟩
  · rintro σ' H' ⟨env', cs', B', A', hI, e2, p2, s2⟩
    exact q1 env' cs' σ' B' H' A' (ie env' cs' hI) (e1.trans e2) (p1.trans p2) s2
/-! ### what is walked -/
theorem wi_tup {Φ : List D → (List Cell → Prop) → List Cell → Prop} (h : wpE K tl env cs fun x c => ∃ ds, x = .dat (.tuple ds) ∧ Φ ds (fun _ => True) c) : wpI K (iTup K tl) env cs Φ := fun F B H A σ s R k =>
  h F B H A σ s _ fun x c v B' H' A' f e p s' r => by
    obtain ⟨ds, rfl, f⟩ := f
    obtain ⟨b, vs, rfl, hs, hr⟩ := r
    refine ⟨b, rfl, ⟨vs, sqT_mono s'.eb hs⟩, k ds _ c _ B' H' A' f e p s' ⟨_, _, (show Walk (Itt K b) ds.length _ _ by rw [← hr.length]; exact walk_tup), fun F2 B2 H2 A2 env2 cs2 σ2 e2 p2 s2 _ => sqT_mono s2.eb (sqT_mono e2 hs), ?_⟩⟩
    rintro i H2 x H3 hi ⟨rfl, hx⟩ F2 B2 A2 env2 cs2 σ2 e2 p2 s2 _
    obtain ⟨d, hd, q⟩ := hr.getV hx
    exact ⟨B2, d, Same.refl B2, s2, hd, q.mono e2⟩
theorem wi_list {Φ : List D → (List Cell → Prop) → List Cell → Prop} (h : wpE K tl env cs fun x c => (∃ ds, x = .dat (.list ds) ∧ Φ ds (fun _ => True) c) ∨ ∃ (k : Nat) (ds : List D), x = .cel k ∧ c[k]? = some (.lst (ds.map .dat)) ∧ Φ ds (fun c2 => c2[k]? = some (.lst (ds.map .dat))) c) : wpI K (iList K tl) env cs Φ := fun F B H A σ s R k =>
  h F B H A σ s _ fun x c v B' H' A' f e p s' r => by
    rcases f with ⟨ds, rfl, f⟩ | ⟨j, ds, rfl, hc, f⟩
    · obtain ⟨b, vs, rfl, hs, hr⟩ := r
      refine ⟨b, rfl, ⟨vs, sqL_mono s'.eb hs⟩, k ds _ c _ B' H' A' f e p s' ⟨_, _, (show Walk (Itl K b) ds.length _ _ by rw [← hr.length]; exact walk_list), fun F2 B2 H2 A2 env2 cs2 σ2 e2 p2 s2 _ => sqL_mono s2.eb (sqL_mono e2 hs), ?_⟩⟩
      rintro i H2 x H3 hi ⟨rfl, hx⟩ F2 B2 A2 env2 cs2 σ2 e2 p2 s2 _
      obtain ⟨d, hd, q⟩ := hr.getV hx
      exact ⟨B2, d, Same.refl B2, s2, hd, q.mono e2⟩
    · obtain ⟨b, hA, rfl⟩ := r
      obtain ⟨vs, hs, hr0⟩ := s'.ch j b _ hA hc
      have hr := RpVs.dats hr0
      refine ⟨b, rfl, ⟨vs, SqL.of hs⟩, k ds _ c _ B' H' A' f e p s' ⟨fun H => ∃ xs, xs.length = ds.length ∧ SqL K H b xs, fun i H x H' => H' = H ∧ ∀ xs, SqL K H b xs → xs[i]? = some x, ⟨fun i H hi ⟨xs, hl, hx⟩ => ⟨xs, xs[i]'(by omega), hx, List.getElem?_eq_getElem (by omega)⟩, fun H ⟨xs, hl, hx⟩ => ⟨xs, hx, by omega⟩, fun i H x H' hi _ hy => hy⟩,
        fun F2 B2 H2 A2 env2 cs2 σ2 e2 p2 s2 kp => ?_, ?_⟩⟩
      · obtain ⟨ws, hs2, hr2⟩ := s2.ch j b _ (p2 _ _ hA) kp
        exact ⟨ws, (RpVs.dats hr2).length, SqL.of hs2⟩
      · rintro i H2 x H3 hi ⟨rfl, hx⟩ F2 B2 A2 env2 cs2 σ2 e2 p2 s2 kp
        obtain ⟨ws, hs2, hr2⟩ := s2.ch j b _ (p2 _ _ hA) kp
        obtain ⟨d, hd, q⟩ := (RpVs.dats hr2).getV (hx ws (SqL.of hs2))
        exact ⟨B2, d, Same.refl B2, s2, hd, q⟩
def rngD (lo : Int) (n : Nat) : List D := (List.range n).map fun i => .int (lo + (i : Nat))
theorem rngD_len {lo : Int} {n : Nat} : (rngD lo n).length = n := by simp [rngD]
theorem rngD_get {lo : Int} {n i : Nat} {d : D} (h : (rngD lo n)[i]? = some d) : i < n ∧ d = .int (lo + (i : Nat)) := by
  have hi := (List.getElem?_eq_some_iff.mp h).1
  rw [rngD_len] at hi
  unfold rngD at h
  rw [List.getElem?_map, List.getElem?_range hi] at h
  exact ⟨hi, (Option.some.inj h).symm⟩
theorem aw_range {B : Hp} {A : List Addr} {lo : Int} {n : Nat} : AW K B A (Itr lo n) (rngD lo n) (fun _ => True) := by
  refine ⟨_, _, (show Walk (Itr lo n) (rngD lo n).length _ _ by rw [rngD_len]; exact walk_range), fun _ _ _ _ _ _ _ _ _ _ _ => trivial, ?_⟩
  rintro i H2 x H3 hi ⟨rfl, rfl⟩ F2 B2 A2 env2 cs2 σ2 e2 p2 s2 _
  rw [rngD_len] at hi
  refine ⟨B2, .int (lo + (i : Nat)), Same.refl B2, s2, ?_, rfl⟩
  unfold rngD
  rw [List.getElem?_map, List.getElem?_range hi]
  rfl
theorem wi_range1 {Φ : List D → (List Cell → Prop) → List Cell → Prop} (h : wpA K ta env cs fun xs c => ∃ n : Int, xs = [.dat (.int n)] ∧ -(2 ^ 62) ≤ n ∧ n < 2 ^ 62 ∧ Φ (rngD 0 n.toNat) (fun _ => True) c) : wpI K (iRng1 ta) env cs Φ := fun F B H A σ s R k =>
  h F B H A σ s _ fun xs c vs B' H' A' f e p s' r => by
    obtain ⟨n, rfl, h1, h2, f⟩ := f
    cases r with
    | cons r1 r2 =>
      cases r2
      have e1 : _ = V.int n := r1
      rw [e1]
      exact ⟨n, rfl, h1, h2, k _ _ c _ B' H' A' f e p s' aw_range⟩
end
/-! ### comprehensions -/
def wipeE (e : Env) : List Nat → Env
  | [] => e
  | v :: vs => (wipeE e vs).set v none
theorem wipe_rp {K : PySem.W.Frag} {B : Hp} {A : List Addr} {e : Env} {σ : L2.St} (h : RpOs K B A e σ) : ∀ vs, RpOs K B A (wipeE e vs) (wipe σ vs)
  | [] => h
  | v :: vs => Paired.set' (show RpO K B A none none from trivial) v (wipe_rp h vs)
theorem wipe_set {σ : L2.St} {i : Nat} {x : Option V} : ∀ {vs : List Nat}, (i ∈ vs → wipe (σ.set i x) vs = wipe σ vs) ∧ (i ∉ vs → wipe (σ.set i x) vs = (wipe σ vs).set i x)
  | [] => ⟨fun h => (by cases h), fun _ => rfl⟩
  | v :: vs => by
    obtain ⟨h1, h2⟩ := wipe_set (σ := σ) (i := i) (x := x) (vs := vs)
    refine ⟨fun h => ?_, fun h => ?_⟩
    · show (wipe (σ.set i x) vs).set v none = (wipe σ vs).set v none
      by_cases hm : i ∈ vs
      · rw [h1 hm]
      · have e : i = v := by
          rcases List.mem_cons.mp h with e | e
          · exact e
          · exact absurd e hm
        rw [h2 hm, e, List.set_set]
    · have ne : i ≠ v := fun e => h (by rw [e]; exact List.mem_cons_self ..)
      show (wipe (σ.set i x) vs).set v none = ((wipe σ vs).set v none).set i x
      rw [h2 (fun m => h (List.mem_cons_of_mem _ m)), List.set_comm _ _ ne]
theorem wipe_idem {σ : L2.St} : ∀ (vs ws : List Nat), (∀ v ∈ vs, v ∈ ws) → wipe (wipe σ vs) ws = wipe σ ws
  | [], _, _ => rfl
  | v :: vs, ws, h => by
    show wipe ((wipe σ vs).set v none) ws = wipe σ ws
    rw [(wipe_set).1 (h v (List.mem_cons_self ..))]
    exact wipe_idem vs ws fun u hu => h u (List.mem_cons_of_mem _ hu)
/-- a target that stores in these slots alone -/
def GO (g : TG) (vs : List Nat) : Prop := ∀ v σ H N, g v σ H (fun σ' H' => wipe σ' vs = wipe σ vs → N σ' H') → g v σ H N
def GOs (g : TGs) (vs : List Nat) : Prop := ∀ v σ H N, g v σ H (fun σ' H' => wipe σ' vs = wipe σ vs → N σ' H') → g v σ H N
theorem go_name {i : Nat} {vs : List Nat} (h : i ∈ vs) : GO (gName i) vs := fun v σ H N k => k ((wipe_set).1 h)
theorem gos_nil {vs : List Nat} : GOs gNil vs := fun v σ H N ⟨e, k⟩ => ⟨e, k rfl⟩
/-- what is monotone -/
def GM (g : TG) : Prop := ∀ v σ H (N M : L2.St → Hp → Prop), (∀ a b, N a b → M a b) → g v σ H N → g v σ H M
def GMs (g : TGs) : Prop := ∀ v σ H (N M : L2.St → Hp → Prop), (∀ a b, N a b → M a b) → g v σ H N → g v σ H M
theorem gm_name {i : Nat} : GM (gName i) := fun _ _ _ _ _ h k => h _ _ k
theorem gms_nil : GMs gNil := fun _ _ _ _ _ h ⟨e, k⟩ => ⟨e, h _ _ k⟩
theorem gms_cons {g : TG} {gs : TGs} (h1 : GM g) (h2 : GMs gs) : GMs (gCons g gs) := fun vs σ H N M h ⟨v, r, e, k⟩ => ⟨v, r, e, h1 _ _ _ _ _ (fun a b q => h2 _ _ _ _ _ h q) k⟩
theorem gos_cons {g : TG} {gs : TGs} {vs : List Nat} (m1 : GM g) (m2 : GMs gs) (h1 : GO g vs) (h2 : GOs gs vs) : GOs (gCons g gs) vs := fun xs σ H N ⟨v, r, e, k⟩ =>
  ⟨v, r, e, h1 _ _ _ _ (m1 _ _ _ _ _ (fun a b q ew => h2 _ _ _ _ (m2 _ _ _ _ _ (fun a' b' q' ew' => q' (ew'.trans ew)) q)) k)⟩
theorem go_tup {K : PySem.W.Frag} {n : Nat} {gs : TGs} {vs : List Nat} (h : GOs gs vs) : GO (gTup K n gs) vs := fun v σ H N ⟨a, xs, e, hs, hl, k⟩ => ⟨a, xs, e, hs, hl, h _ _ _ _ k⟩
section
variable {K : PySem.W.Frag} {env : Env} {cs : List Cell} {te tl : TE} {tt : TT} {g : TG} {ti : TI} {Φ : Vl → List Cell → Prop} {vs : List Nat}
/-- a value as data, the cells from m on let go -/
def FzTo (m : Nat) (y : Vl) (c : List Cell) (P : D → List Cell → Prop) : Prop :=
  (∃ d, y = .dat d ∧ c.length = m ∧ P d c) ∨ CsB m (c.take m) ∧ ((∃ d, y = .dat d ∧ P d (c.take m)) ∨ ∃ (k : Nat) (es : List D), y = .cel k ∧ m ≤ k ∧ c[k]? = some (.lst (es.map .dat)) ∧ P (.list es) (c.take m))
theorem we_lc (go : GO g vs) (h : wpI K ti env cs fun ds keep c => ds.length ≤ 10000000 ∧ ∃ Inv : Nat → List Cell → List D → Prop, Inv 0 c [] ∧ (∀ i c' acc, i ≤ ds.length → Inv i c' acc → keep c' ∧ c'.length = c.length) ∧
      (∀ i d c' acc, ds[i]? = some d → Inv i c' acc → wpG K g (.dat d) (wipeE env vs) c' fun e c2 => wpT K tt e c2 fun b c3 => (b = true → wpE K te e c3 fun y c4 => FzTo c.length y c4 fun d' c5 => Inv (i + 1) c5 (acc ++ [d'])) ∧ (b = false → (c3.length = c.length ∧ Inv (i + 1) c3 acc) ∨ CsB c.length (c3.take c.length) ∧ Inv (i + 1) (c3.take c.length) acc)) ∧
      (∀ c' acc, Inv ds.length c' acc → Φ (.cel c'.length) (c' ++ [.lst (acc.map .dat)]))) : wpE K (tLc ti g tt te vs) env cs Φ := fun F B H A σ s Q q => by
  refine h F B H A σ s _ fun ds keep c1 J B1 H1 A1 f e1 p1 s1 aw => ?_
  obtain ⟨hn, Inv, i0, ik, it, ie⟩ := f
  obtain ⟨G, Y, w, hG, hY⟩ := aw
  intro Dl hD
  have hF : F Dl = none := by
    cases e : F Dl with
    | none => rfl
    | some u =>
      have := s1.ef _ _ e
      rw [hD] at this
      cases this
  refine lc_it w (fun i H' => ∃ c' acc B' A' vs', Inv i c' acc ∧ acc.length ≤ i ∧ Same B1 B' ∧ Pre A1 A' ∧ St K (upd F Dl (.lst vs')) B' H' A' (wipeE env vs) c' (wipe σ vs) ∧ RpL K B' acc vs') ?_ ?_ ?_ ?_
  · exact ⟨c1, [], B1, A1, [], i0, Nat.le_refl 0, Same.refl B1, Pre.refl A1, (s1.fnew hD).withEnv (wipe_rp s1.sl vs), rfl⟩
  · rintro i H' hi ⟨c', acc, B', A', vs', hI, hl, e2, p2, s2, r2⟩
    exact hG _ B' H' A' _ c' _ e2 p2 s2 (ik i c' acc hi hI).1
  · rintro i x H' H'' hi ⟨c', acc, B', A', vs', hI, hl, e2, p2, s2, r2⟩ hy
    have hkp := ik i c' acc (Nat.le_of_lt hi) hI
    obtain ⟨B3, d, e3, s3, hd, hr⟩ := hY i H' x H'' hi hy _ B' A' _ c' _ e2 p2 s2 hkp.1
    have lA : A'.length = c1.length := by rw [s2.la]; exact hkp.2
    refine go _ _ _ _ ?_
    refine it i d c' acc hd hI _ B3 H'' A' _ x s3 hr _ fun env4 c4 σ4 B4 H4 A4 f4 e4 p4 s4 ew => ⟨by rw [ew]; exact wipe_idem vs vs fun _ h => h, ?_⟩
    refine f4 _ B4 H4 A4 σ4 s4 _ fun b c5 B5 H5 A5 f5 e5 p5 s5 => ?_
    have envB : ∀ {B9 : Hp} {A9 : List Addr}, Same B1 B9 → Pre A1 A9 → RpOs K B9 (A9.take c1.length) (wipeE env vs) (wipe σ vs) := fun e9 p9 => RpOs.mono e9 (p9.take (by rw [s1.la]; exact Nat.le_refl _)) (wipe_rp s1.sl vs)
    have hz : sizeLine = 16777216 := sizeLine_eq
    cases b with
    | false =>
      have f6 := f5.2 rfl
      have f7 : CsB c1.length (c5.take c1.length) ∧ Inv (i + 1) (c5.take c1.length) acc := by
        rcases f6 with ⟨h1, h2⟩ | h
        · rw [← h1, List.take_length]
          exact ⟨s5.csb, h2⟩
        · exact h
      obtain ⟨hb, hv⟩ := f7
      have eA := ((e2.trans e3).trans e4).trans e5
      have pA := (p2.trans p4).trans p5
      exact ⟨_, acc, B5, _, vs', hv, Nat.le_succ_of_le hl, eA, pA.take (by rw [s1.la]; exact Nat.le_refl _), s5.take hb (envB eA pA), r2.mono ((e3.trans e4).trans e5)⟩
    | true =>
      refine f5.1 rfl _ B5 H5 A5 σ4 s5 _ fun y c6 v B6 H6 A6 f6 e6 p6 s6 r6 => ?_
      have eA := (((e2.trans e3).trans e4).trans e5).trans e6
      have pA := ((p2.trans p4).trans p5).trans p6
      have rv := r2.mono (((e3.trans e4).trans e5).trans e6)
      have hH : H6 Dl = some (.lst vs') := s6.ef _ _ upd_same
      refine ⟨vs', hH, by rw [rv.length, hz]; omega, ?_⟩
      have f7 : CsB c1.length (c6.take c1.length) ∧ ((∃ d, y = .dat d ∧ Inv (i + 1) (c6.take c1.length) (acc ++ [d])) ∨ ∃ (k : Nat) (es : List D), y = .cel k ∧ c1.length ≤ k ∧ c6[k]? = some (.lst (es.map .dat)) ∧ Inv (i + 1) (c6.take c1.length) (acc ++ [.list es])) := by
        rcases f6 with ⟨d, h1, h2, h3⟩ | h
        · rw [← h2, List.take_length]
          exact ⟨s6.csb, .inl ⟨d, h1, h3⟩⟩
        · exact h
      obtain ⟨hb, ⟨d', rfl, hv⟩ | ⟨k, es, rfl, hk, hc, hv⟩⟩ := f7
      · exact ⟨_, acc ++ [d'], B6, _, vs' ++ [v], hv, by rw [List.length_append]; exact Nat.succ_le_succ hl, eA, pA.take (by rw [s1.la]; exact Nat.le_refl _), (s6.take hb (envB eA pA)).fput, rv.append ⟨v, [], rfl, r6, rfl⟩⟩
      · obtain ⟨ad, hA, rfl⟩ := r6
        obtain ⟨ws, hw, hrw, s7, e7⟩ := s6.fz hA hc hk hb (envB eA pA)
        exact ⟨_, acc ++ [.list es], _, _, vs' ++ [.ref ad], hv, by rw [List.length_append]; exact Nat.succ_le_succ hl, eA.trans e7, pA.take (by rw [s1.la]; exact Nat.le_refl _), s7.fput, (rv.mono e7).append ⟨.ref ad, [], rfl, (show Rp K _ (.list es) (.ref ad) from ⟨ad, ws, rfl, SqL.of upd_same, hrw.mono e7⟩), rfl⟩⟩
  · rintro H' ⟨c', acc, B', A', vs', hI, hl, e2, p2, s2, r2⟩
    have eA := e1.trans e2
    have hH : H' Dl = some (.lst vs') := s2.ef _ _ upd_same
    have s3 := (s2.unf hF (c := .lst (acc.map .dat)) ⟨vs', hH, RpVs.of_dats r2⟩)
    refine q _ _ _ B' H' (A' ++ [Dl]) (ie c' acc hI) eA ((p1.trans p2).trans (Pre.app A' [Dl])) (s3.withEnv (RpOs.mono e2 (p2.trans (Pre.app A' [Dl])) s1.sl)) ⟨Dl, ?_, rfl⟩
    rw [← s2.la, List.getElem?_append_right (Nat.le_refl _), Nat.sub_self]
    rfl
theorem wt_yes {Φ : Bool → List Cell → Prop} (f : Φ true cs) : wpT K tYes env cs Φ := fun F B H A σ s Q q => q true cs B H A f (Same.refl B) (Pre.refl A) s
end
end G
namespace G
open PySem PySem.Spec PyProof.Rows L2
/-! ### cells handed to a def: by a list of their places -/
def mpV (ks : List Nat) : Vl → Vl
  | .dat d => .dat d
  | .cel j => .cel (ks.getD j 0)
def mpC (ks : List Nat) : Cell → Cell
  | .lst xs => .lst (xs.map (mpV ks))
  | .dct kvs => .dct (kvs.map fun p => (p.1, mpV ks p.2))
  | .obj C fs => .obj C (fs.map fun p => (p.1, mpV ks p.2))
  | .dcx o kvs => .dcx o (kvs.map fun p => (p.1, mpV ks p.2))
def putAll (cs : List Cell) : List Nat → List Cell → List Cell
  | [], _ => cs
  | _ :: _, [] => cs
  | k :: ks, c :: cs' => putAll (cs.set k c) ks cs'
theorem putAll_len : ∀ {ks : List Nat} {cs cs' : List Cell}, (putAll cs ks cs').length = cs.length
  | [], _, cs' => by cases cs' <;> rfl
  | _ :: _, _, [] => rfl
  | k :: ks, cs, c :: cs' => by
    show (putAll (cs.set k c) ks cs').length = cs.length
    rw [putAll_len, List.length_set]
theorem putAll_ne : ∀ {ks : List Nat} {cs cs' : List Cell} {i : Nat}, i ∉ ks → (putAll cs ks cs')[i]? = cs[i]?
  | [], _, cs', _, _ => by cases cs' <;> rfl
  | _ :: _, _, [], _, _ => rfl
  | k :: ks, cs, c :: cs', i, h => by
    show (putAll (cs.set k c) ks cs')[i]? = cs[i]?
    rw [putAll_ne (fun z => h (List.mem_cons_of_mem _ z)), List.getElem?_set_ne (fun z => h (by rw [z]; exact List.mem_cons_self ..))]
theorem putAll_at : ∀ {ks : List Nat} {cs cs' : List Cell} {i j : Nat}, ks.Nodup → ks[j]? = some i → i < cs.length → j < cs'.length → (putAll cs ks cs')[i]? = cs'[j]?
  | [], _, _, _, _, _, h, _, _ => by simp at h
  | _ :: _, _, [], _, _, _, _, _, h => by simp at h
  | k :: ks, cs, c :: cs', i, 0, hn, h, hi, _ => by
    have e : k = i := Option.some.inj (by simpa using h)
    subst e
    show (putAll (cs.set k c) ks cs')[k]? = some c
    rw [putAll_ne (List.nodup_cons.mp hn).1, List.getElem?_set_self hi]
  | k :: ks, cs, c :: cs', i, j + 1, hn, h, hi, hj => by
    show (putAll (cs.set k c) ks cs')[i]? = cs'[j]?
    exact putAll_at (List.nodup_cons.mp hn).2 (by simpa using h) (by rw [List.length_set]; exact hi) (by simpa using hj)
section
variable {K : PySem.W.Frag} {F B B' H H' : Hp} {A A' A0 : List Addr} {env : Env} {cs cs0 : List Cell} {σ : L2.St} {ks : List Nat}
/-- A0 tells where the cells at ks stand -/
def Sub (A A0 : List Addr) (ks : List Nat) : Prop := A0.length = ks.length ∧ ∀ (j k : Nat), ks[j]? = some k → ∃ a, A[k]? = some a ∧ A0[j]? = some a
theorem Sub.mk' : ∀ {ks : List Nat} {A : List Addr}, (∀ k ∈ ks, k < A.length) → ∃ A0, Sub A A0 ks
  | [], _, _ => ⟨[], rfl, fun _ _ h => by simp at h⟩
  | k :: ks, A, h => by
    obtain ⟨A0, h1, h2⟩ := Sub.mk' (ks := ks) (A := A) fun k hk => h k (List.mem_cons_of_mem _ hk)
    have hk := h k (List.mem_cons_self ..)
    refine ⟨A[k] :: A0, by simp [h1], fun j i e => ?_⟩
    cases j with
    | zero =>
      have e : k = i := Option.some.inj (by simpa using e)
      subst e
      exact ⟨A[k], List.getElem?_eq_getElem hk, rfl⟩
    | succ j =>
      obtain ⟨a, q1, q2⟩ := h2 j i (by simpa using e)
      exact ⟨a, q1, by simpa using q2⟩
theorem Sub.in {a : Addr} (s : Sub A A0 ks) {j : Nat} (h : A0[j]? = some a) : ∃ k, ks[j]? = some k ∧ A[k]? = some a := by
  have hj := (List.getElem?_eq_some_iff.mp h).1
  rw [s.1] at hj
  obtain ⟨b, q1, q2⟩ := s.2 j ks[j] (List.getElem?_eq_getElem hj)
  rw [h] at q2
  cases q2
  exact ⟨_, List.getElem?_eq_getElem hj, q1⟩
theorem RpV.down (s : Sub A A0 ks) {x : Vl} {v : V} (hb : VlB ks.length x) (h : RpV K B A (mpV ks x) v) : RpV K B A0 x v := by
  cases x with
  | dat d => exact h
  | cel j =>
    obtain ⟨a, h1, h2⟩ := h
    have e : ks[j]? = some (ks.getD j 0) := by
      rw [List.getD_eq_getElem?_getD, List.getElem?_eq_getElem hb]
      rfl
    obtain ⟨b, q1, q2⟩ := s.2 j _ e
    rw [h1] at q1
    cases q1
    exact ⟨a, q2, h2⟩
theorem RpV.up (s : Sub A A0 ks) (p : Pre A0 A') {x : Vl} {v : V} (hb : VlB ks.length x) (h : RpV K B A' x v) : RpV K B A (mpV ks x) v := by
  cases x with
  | dat d => exact h
  | cel j =>
    obtain ⟨a, h1, h2⟩ := h
    have e : ks[j]? = some (ks.getD j 0) := by
      rw [List.getD_eq_getElem?_getD, List.getElem?_eq_getElem hb]
      rfl
    obtain ⟨b, q1, q2⟩ := s.2 j _ e
    have := p _ _ q2
    rw [h1] at this
    cases this
    exact ⟨a, q1, h2⟩
theorem Paired.mapL {α β γ : Type} {F : α → β → Prop} {G : γ → β → Prop} (f : γ → α) : ∀ {l₁ : List γ} {l₂ : List β}, Paired F (l₁.map f) l₂ → (∀ a b, a ∈ l₁ → F (f a) b → G a b) → Paired G l₁ l₂
  | [], _, h, _ => by
    cases h
    exact .nil
  | _ :: _, _, h, k => by
    cases h with
    | cons r t => exact .cons (k _ _ (List.mem_cons_self ..) r) (Paired.mapL f t fun a b h => k a b (List.mem_cons_of_mem _ h))
theorem Paired.mapR {α β γ : Type} {F : α → β → Prop} {G : γ → β → Prop} (f : γ → α) : ∀ {l₁ : List γ} {l₂ : List β}, Paired G l₁ l₂ → (∀ a b, a ∈ l₁ → G a b → F (f a) b) → Paired F (l₁.map f) l₂
  | _, _, .nil, _ => .nil
  | _, _, .cons r t, k => .cons (k _ _ (List.mem_cons_self ..) r) (Paired.mapR f t fun a b h => k a b (List.mem_cons_of_mem _ h))
theorem CellOk.down (s : Sub A A0 ks) {a : Addr} {c : Cell} (hb : CellB ks.length c) (h : CellOk K B A H a (mpC ks c)) : CellOk K B A0 H a c := by
  cases c with
  | lst xs =>
    obtain ⟨vs, h1, h2⟩ := h
    exact ⟨vs, h1, Paired.mapL _ h2 fun x v hx r => RpV.down s (hb x hx) r⟩
  | dct kvs =>
    obtain ⟨vs, h1, h2⟩ := h
    exact ⟨vs, h1, Paired.mapL _ h2 fun x v hx r => ⟨r.1, RpV.down s (hb x hx) r.2⟩⟩
  | obj C fs =>
    obtain ⟨dx, vs, h1, h2⟩ := h
    exact ⟨dx, vs, h1, Paired.mapL _ h2 fun x v hx r => ⟨r.1, RpV.down s (hb x hx) r.2⟩⟩
  | dcx o kvs =>
    obtain ⟨vs, h1, h2⟩ := h
    exact ⟨vs, by rw [List.map_map] at h1; exact h1, Paired.mapL _ h2 fun x v hx r => ⟨r.1, RpV.down s (hb x hx) r.2⟩⟩
theorem CellOk.up (s : Sub A A0 ks) (p : Pre A0 A') {a : Addr} {c : Cell} (hb : CellB ks.length c) (h : CellOk K B A' H a c) : CellOk K B A H a (mpC ks c) := by
  cases c with
  | lst xs =>
    obtain ⟨vs, h1, h2⟩ := h
    exact ⟨vs, h1, Paired.mapR _ h2 fun x v hx r => RpV.up s p (hb x hx) r⟩
  | dct kvs =>
    obtain ⟨vs, h1, h2⟩ := h
    exact ⟨vs, h1, Paired.mapR _ h2 fun x v hx r => ⟨r.1, RpV.up s p (hb x hx) r.2⟩⟩
  | obj C fs =>
    obtain ⟨dx, vs, h1, h2⟩ := h
    exact ⟨dx, vs, h1, Paired.mapR _ h2 fun x v hx r => ⟨r.1, RpV.up s p (hb x hx) r.2⟩⟩
  | dcx o kvs =>
    obtain ⟨vs, h1, h2⟩ := h
    exact ⟨vs, by rw [List.map_map]; exact h1, Paired.mapR _ h2 fun x v hx r => ⟨r.1, RpV.up s p (hb x hx) r.2⟩⟩
open Classical in
/-- what the callee must leave alone -/
noncomputable def rim (A A0 : List Addr) (H F : Hp) : Hp := fun b => if b ∈ A ∧ b ∉ A0 then H b else F b
theorem St.sub (s : St K F B H A env cs σ) (sb : Sub A A0 ks) (hk : ks.Nodup) (hb : CsB ks.length cs0) (hl : cs0.length = ks.length) (hm : ∀ (j k : Nat), ks[j]? = some k → ∃ c, cs0[j]? = some c ∧ cs[k]? = some (mpC ks c)) :
    St K (rim A A0 H F) B H A0 [] cs0 [] := by
  have inA : ∀ {j : Nat} {a : Addr}, A0[j]? = some a → a ∈ A := fun h => by
    obtain ⟨k, _, q⟩ := sb.in h
    exact List.mem_of_getElem? q
  refine ⟨s.eb, fun b u q => ?_, fun b u q => ?_, by rw [sb.1, hl], ?_, fun j a q => ?_, fun j a c q r => ?_, .nil, s.tb.step (Same.refl B) fun P ps h1 h2 h3 h4 => ⟨(by
    unfold rim
    rw [if_neg (fun z => h4 z.1)]
    exact h2), h3, fun z => h4 ((List.getElem?_of_mem z).elim fun j hj => inA hj), h1⟩⟩
  · unfold rim at q
    split at q
    · exact q
    · exact s.ef _ _ q
  · unfold rim at q
    split at q
    · rename_i h
      obtain ⟨k, hk'⟩ := List.getElem?_of_mem h.1
      exact (s.ca k b hk').1
    · exact s.bf _ _ q
  · refine List.pairwise_iff_getElem.mpr fun i j hi' hj' hij e0 => ?_
    obtain ⟨a, ha⟩ : ∃ a, A0[j]? = some a := ⟨_, List.getElem?_eq_getElem hj'⟩
    have e : A0[i]? = some a := by
      rw [List.getElem?_eq_getElem hi', e0, ← List.getElem?_eq_getElem hj']
      exact ha
    obtain ⟨k1, q1, q2⟩ := sb.in e
    obtain ⟨k2, q3, q4⟩ := sb.in ha
    have e1 := List.getElem?_eq_some_iff.mp q2
    have e2 := List.getElem?_eq_some_iff.mp q4
    have e3 := (List.getElem_inj s.nd).mp (e1.2.trans e2.2.symm)
    subst e3
    have f1 := List.getElem?_eq_some_iff.mp q1
    have f2 := List.getElem?_eq_some_iff.mp q3
    have f3 := (List.getElem_inj hk).mp (f1.2.trans f2.2.symm)
    omega
  · obtain ⟨k, _, q2⟩ := sb.in q
    refine ⟨(s.ca k a q2).1, ?_⟩
    unfold rim
    rw [if_neg (fun h => h.2 (List.mem_of_getElem? q))]
    exact (s.ca k a q2).2
  · obtain ⟨k, q1, q2⟩ := sb.in q
    obtain ⟨c', hc, hc2⟩ := hm j k q1
    rw [r] at hc
    cases hc
    exact (s.ch k a _ q2 hc2).down sb (hb c (List.mem_of_getElem? r))
theorem St.back {env' : Env} {σ' : L2.St} {cs1 : List Cell} (s : St K F B H A env cs σ) (sb : Sub A A0 ks) (hk : ks.Nodup) (s' : St K (rim A A0 H F) B' H' A' env' cs1 σ') (e : Same B B') (p : Pre A0 A') (hb : CsB ks.length (cs1.take ks.length)) (hl : ks.length ≤ cs1.length) :
    St K F B' H' A env (putAll cs ks ((cs1.take ks.length).map (mpC ks))) σ := by
  have h0 : ∀ {k : Nat} {a : Addr}, A[k]? = some a → k ∉ ks → a ∉ A0 := fun {k a} q hn h => by
    obtain ⟨j, hj⟩ := List.getElem?_of_mem h
    obtain ⟨k2, q1, q2⟩ := sb.in hj
    have e1 := List.getElem?_eq_some_iff.mp q
    have e2 := List.getElem?_eq_some_iff.mp q2
    have e3 := (List.getElem_inj s.nd).mp (e1.2.trans e2.2.symm)
    subst e3
    exact hn (List.mem_of_getElem? q1)
  have hcase : ∀ {k : Nat} {a : Addr}, A[k]? = some a → (∃ j, ks[j]? = some k ∧ A0[j]? = some a) ∨ (k ∉ ks ∧ (rim A A0 H F) a = H a) := fun {k a} q => by
    by_cases hm : k ∈ ks
    · obtain ⟨j, hj⟩ := List.getElem?_of_mem hm
      obtain ⟨b, q1, q2⟩ := sb.2 j k hj
      rw [q] at q1
      cases q1
      exact .inl ⟨j, hj, q2⟩
    · refine .inr ⟨hm, ?_⟩
      unfold rim
      rw [if_pos ⟨List.mem_of_getElem? q, h0 q hm⟩]
  have hF : ∀ b u, F b = some u → (rim A A0 H F) b = some u := fun b u q => by
    unfold rim
    rw [if_neg (fun h => by
      obtain ⟨k, hk'⟩ := List.getElem?_of_mem h.1
      have := (s.ca k b hk').2
      rw [q] at this
      cases this)]
    exact q
  have hH : ∀ {k : Nat} {a : Addr}, A[k]? = some a → ∃ o, H a = some o := fun {k a} q => by
    cases e : H a with
    | none => exact absurd e (s.there q)
    | some o => exact ⟨o, rfl⟩
  refine ⟨s'.eb, fun b u q => s'.ef b u (hF b u q), fun b u q => s'.bf b u (hF b u q), by rw [putAll_len]; exact s.la, s.nd, fun k a q => ⟨?_, (s.ca k a q).2⟩, fun k a c q r => ?_, RpOs.mono e (Pre.refl A) s.sl, s'.tb.step (Same.refl B') fun P ps h1 h2 h3 h4 => ⟨(by
    cases q : F P with
    | none => rfl
    | some u =>
      rw [hF P u q] at h2
      cases h2), h3, (fun z => by
    obtain ⟨k, hk'⟩ := List.getElem?_of_mem z
    by_cases hz : P ∈ A0
    · obtain ⟨j, hj⟩ := List.getElem?_of_mem hz
      exact h4 (List.mem_of_getElem? (p _ _ hj))
    · unfold rim at h2
      rw [if_pos ⟨z, hz⟩] at h2
      exact s.there hk' h2), h1⟩⟩
  · rcases hcase q with ⟨j, h1, h2⟩ | ⟨_, h2⟩
    · exact (s'.ca j a (p _ _ h2)).1
    · obtain ⟨o, ho⟩ := hH q
      exact s'.bf a o (by rw [h2]; exact ho)
  · rcases hcase q with ⟨j, h1, h2⟩ | ⟨h1, h2⟩
    · have hj : j < ks.length := (List.getElem?_eq_some_iff.mp h1).1
      have hkl : k < cs.length := by rw [← s.la]; exact (List.getElem?_eq_some_iff.mp q).1
      have hj2 : j < ((cs1.take ks.length).map (mpC ks)).length := by rw [List.length_map, List.length_take]; omega
      rw [putAll_at hk h1 hkl hj2, List.getElem?_map] at r
      cases hc : (cs1.take ks.length)[j]? with
      | none =>
        rw [hc] at r
        cases r
      | some c0 =>
        rw [hc] at r
        have e0 : mpC ks c0 = c := Option.some.inj r
        rw [← e0]
        have hc' : cs1[j]? = some c0 := by
          rw [List.getElem?_take, if_pos hj] at hc
          exact hc
        exact (s'.ch j a c0 (p _ _ h2) hc').up sb p (hb c0 (List.mem_of_getElem? hc))
    · rw [putAll_ne h1] at r
      obtain ⟨o, ho⟩ := hH q
      have : H' a = H a := by rw [ho]; exact s'.ef a o (by rw [h2]; exact ho)
      exact (s.ch k a c q r).mono e (Pre.refl A) this
theorem St.add {p : Addr} {c : Cell} (s : St K F B H A env cs σ) (hb : B p = none) (hf : F p = none) (nA : ∀ (k : Nat) (a : Addr), A[k]? = some a → a ≠ p) (hc : CellOk K B (A ++ [p]) H p c) (hp : ∀ q ∈ tabsOf K, q.1 ≠ p) : St K F B H (A ++ [p]) env (cs ++ [c]) σ := by
  have hk : ∀ (k : Nat) (a : Addr), (A ++ [p])[k]? = some a → A[k]? = some a ∨ (k = A.length ∧ a = p) := fun k a q => by
    by_cases hl : k < A.length
    · rw [List.getElem?_append_left hl] at q
      exact .inl q
    · rw [List.getElem?_append_right (by omega)] at q
      by_cases e : k = A.length
      · subst e
        rw [Nat.sub_self] at q
        exact .inr ⟨rfl, (Option.some.inj q).symm⟩
      · rw [List.getElem?_eq_none (by simp; omega)] at q
        cases q
  refine ⟨s.eb, s.ef, s.bf, by rw [List.length_append, List.length_append, s.la]; rfl, ?_, fun k a q => ?_, fun k a c' q r => ?_, RpOs.mono (Same.refl B) (Pre.app A [p]) s.sl, fun t ht => by
    obtain ⟨h1, h2, h3, h4⟩ := s.tb t ht
    exact ⟨h1, h2, fun z => (List.mem_append.mp z).elim h3 fun z => hp t ht (List.mem_singleton.mp z), h4⟩⟩
  · rw [List.nodup_append]
    refine ⟨s.nd, by simp, fun a ha b hb' => ?_⟩
    obtain ⟨k, hk'⟩ := List.getElem?_of_mem ha
    have e : b = p := by simpa using hb'
    rw [e]
    exact nA k a hk'
  · rcases hk k a q with q | ⟨_, rfl⟩
    · exact s.ca k a q
    · exact ⟨hb, hf⟩
  · rcases hk k a q with q | ⟨e1, rfl⟩
    · have hl := (List.getElem?_eq_some_iff.mp q).1
      rw [List.getElem?_append_left (by rw [← s.la]; exact hl)] at r
      exact (s.ch k a c' q r).mono (Same.refl B) (Pre.app A [p]) rfl
    · rw [e1, s.la, List.getElem?_append_right (Nat.le_refl _), Nat.sub_self] at r
      have e := Option.some.inj (show some c = some c' from r)
      subst e
      exact hc
end
/-! ### promises -/
/-- what a def does, of its arguments, the cells that it is handed, and what is wanted of its value and the cells -/
abbrev AS := List Vl → List Cell → (Vl → List Cell → Prop) → Prop
def conc (K : PySem.W.Frag) (a : AS) : Sp := fun vs H Q _ => ∃ F B A args cs Φ, St K F B H A (args.map some) cs (vs.map some) ∧ a args cs Φ ∧
  ∀ x cs' v B' H' A', Φ x cs' → Same B B' → Pre A A' → St K F B' H' A' [some x] cs' [some v] → Q v H'
/-- a value handed back: data; data that are a list from now on; a new cell -/
def Fin (m : Nat) (x : Vl) (c : List Cell) (Φ : Vl → List Cell → Prop) : Prop := (∃ d, x = .dat d ∧ c.length = m ∧ Φ (.dat d) c) ∨ CsB m (c.take m) ∧
  ((∃ d, x = .dat d ∧ Φ (.dat d) (c.take m)) ∨ (∃ (k : Nat) (es : List D), x = .cel k ∧ m ≤ k ∧ c[k]? = some (.lst (es.map .dat)) ∧ Φ (.dat (.list es)) (c.take m)) ∨
    ∃ (k : Nat) (c0 : Cell), x = .cel k ∧ m ≤ k ∧ c[k]? = some c0 ∧ CellB m c0 ∧ Φ (.cel m) (c.take m ++ [c0]))
theorem rel_some {K : PySem.W.Frag} {B : Hp} {A : List Addr} : ∀ {xs : List Vl} {vs : List V}, RpOs K B A (xs.map some) (vs.map some) → RpVs K B A xs vs
  | [], [], _ => .nil
  | [], _ :: _, h => by cases h
  | _ :: _, [], h => by cases h
  | _ :: _, _ :: _, h => by
    cases h with
    | cons r t => exact .cons r (rel_some t)
theorem some_rel {K : PySem.W.Frag} {B : Hp} {A : List Addr} : ∀ {xs : List Vl} {vs : List V}, RpVs K B A xs vs → RpOs K B A (xs.map some) (vs.map some)
  | _, _, .nil => .nil
  | _, _, .cons r t => .cons r (some_rel t)
theorem Paired.rep {α β : Type} {F : α → β → Prop} {a : α} {b : β} (h : F a b) : ∀ n, Paired F (List.replicate n a) (List.replicate n b)
  | 0 => .nil
  | n + 1 => .cons h (Paired.rep h n)
section
variable {K : PySem.W.Frag} {F B H : Hp} {A : List Addr} {cs : List Cell} {env : Env} {σ : L2.St}
theorem fin_end {m : Nat} {Φ : Vl → List Cell → Prop} {Q : VK} {B0 : Hp} {A0 : List Addr} {x : Vl} {v : V} (h : Fin m x cs Φ) (e : Same B0 B) (p : Pre A0 A) (hm : A0.length = m) (s : St K F B H A env cs σ) (r : RpV K B A x v)
    (q : ∀ x cs' v B' H' A', Φ x cs' → Same B0 B' → Pre A0 A' → St K F B' H' A' [some x] cs' [some v] → Q v H') : Q v H := by
  have h1 : CsB m (cs.take m) ∧ ((∃ d, x = .dat d ∧ Φ (.dat d) (cs.take m)) ∨ (∃ (k : Nat) (es : List D), x = .cel k ∧ m ≤ k ∧ cs[k]? = some (.lst (es.map .dat)) ∧ Φ (.dat (.list es)) (cs.take m)) ∨
      ∃ (k : Nat) (c0 : Cell), x = .cel k ∧ m ≤ k ∧ cs[k]? = some c0 ∧ CellB m c0 ∧ Φ (.cel m) (cs.take m ++ [c0])) := by
    rcases h with ⟨d, h1, h2, h3⟩ | h
    · rw [← h2, List.take_length]
      exact ⟨s.csb, .inl ⟨d, h1, h3⟩⟩
    · exact h
  obtain ⟨hb, ⟨d, rfl, f⟩ | ⟨k, es, rfl, hk, hc, f⟩ | ⟨k, c0, rfl, hk, hc, hcb, f⟩⟩ := h1
  · exact q _ _ v B H (A.take m) f e (p.take (Nat.le_of_eq hm)) (s.take hb (.cons r .nil))
  · obtain ⟨a, ha, rfl⟩ := r
    obtain ⟨ws, hw, hrw, s7, e7⟩ := s.fz (env' := []) (σ' := []) ha hc hk hb .nil
    exact q _ _ _ _ H (A.take m) f (e.trans e7) (p.take (Nat.le_of_eq hm)) (s7.withEnv (.cons ⟨a, ws, rfl, SqL.of upd_same, hrw.mono e7⟩ .nil))
  · obtain ⟨a, ha, rfl⟩ := r
    have nA : ∀ (j : Nat) (b : Addr), (A.take m)[j]? = some b → b ≠ a := fun j b q z => by
      subst z
      have q2 := take_get.mp q
      have e1 := List.getElem?_eq_some_iff.mp q2.2
      have e2 := List.getElem?_eq_some_iff.mp ha
      have e3 := (List.getElem_inj s.nd).mp (e1.2.trans e2.2.symm)
      omega
    have hc1 : CellOk K B (A.take m) H a c0 := (s.ch k a c0 ha hc).cut hcb
    have s1 := (s.take (env' := []) (σ' := []) hb .nil).add (s.ca k a ha).1 (s.ca k a ha).2 nA (hc1.mono (Same.refl B) (Pre.app _ [a]) rfl) (fun t ht z => (s.tb t ht).2.2.1 (by rw [z]; exact List.mem_of_getElem? ha))
    have hl : (A.take m).length = m := by
      rw [List.length_take]
      have := (List.getElem?_eq_some_iff.mp ha).1
      omega
    refine q _ _ _ B H _ f e ((p.take (Nat.le_of_eq hm)).trans (Pre.app _ [a])) (s1.withEnv (.cons ⟨a, ?_, rfl⟩ .nil))
    rw [List.getElem?_append_right (by omega), hl, Nat.sub_self]
    rfl
end
section
variable {P : Program} {w : World} {K : PySem.W.Frag} {mg : Str → Option Value} {base : Heap}
/-- a def of the text as it stands behind the top, no defaults -/
abbrev FnP (K : PySem.W.Frag) (x q : Str) (st : Stmt) (f : Addr) (fd : FuncData) : Prop := FunD K x q (defArgs st) (defBody st) (defScope st) [] [] f fd
structure Df (K : PySem.W.Frag) (mg : Str → Option Value) (x : Str) (st : Stmt) (ps : List Str) where
  f : Addr
  fd : FuncData
  F : FnP K x x st f fd
  b : Binds K fd ps []
  g : mg x = some (.ref f)
theorem fn_abs {x qual : Str} {st : Stmt} {f : Addr} {fd : FuncData} {N ps : List Str} {k : Nat} {a : AS} (Fn : FnP K x qual st f fd) (S : FnScope N ps (defScope st)) (len : ∀ args cs Φ, a args cs Φ → args.length = ps.length)
    (body : ∀ (cdv : Value) (A : Around) (outer : List PySem.Env) (s : Shared) (H : Hp) (E : XK), Room k (A.deeper (envOfC qual (defScope st) s.heap.objs.size f cdv)) →
      ∃ t, PSs (cxOf CX0 P w K mg base N qual (defScope st) f cdv A outer s H E).nox (defBody st) t ∧
        ∀ args cs Φ, a args cs Φ → wpS K t (args.map some ++ List.replicate (N.length - args.length) none) cs { nx := fun _ c => Fin cs.length (.dat .none) c Φ, rt := fun x c => Fin cs.length x c Φ }) :
    FnOk P w K mg base CX0 (k + 1) f fd ps (conc K a) := by
  refine Fn.ok S (fun vs H Q E h => ?_) (fun cdv A outer s H vs Q E hr h => ?_)
  · obtain ⟨F, B, A, args, cs, Φ, hs, ha, _⟩ := h
    rw [← len args cs Φ ha, (Paired.length (rel_some hs.sl))]
  · obtain ⟨t, ht, hw⟩ := body cdv A outer s H E hr
    obtain ⟨F, B, A0, args, cs, Φ, hs, ha, q⟩ := h
    refine ⟨t, ht.nox, hw args cs Φ ha F B H A0 _ (hs.withEnv ?_) _ ?_ ?_ (fun _ _ _ _ _ _ f => f.elim) (fun _ _ _ _ _ _ f => f.elim)⟩
    · unfold L2.start
      refine Paired.app' hs.sl ?_
      rw [Paired.length (rel_some hs.sl)]
      exact Paired.rep (show RpO K B A0 none none from trivial) _
    · exact fun env' cs' σ' B' H' A' f e p s' => fin_end f e p hs.la s' (show RpV K B' A' (.dat .none) .non from rfl) q
    · exact fun x cs' v env' σ' B' H' A' f e p s' r => fin_end f e p hs.la s' r q
end
section
variable {K : PySem.W.Frag} {env : Env} {cs : List Cell} {ta : TA} {Φ : Vl → List Cell → Prop}
/-- a call: ks the cells that are handed on, as the callee has them cs0; what it leaves, as it has them, c' -/
theorem we_call {a : AS} {E : XK} (h : wpA K ta env cs fun xs c1 => ∃ (ks : List Nat) (xs0 : List Vl) (cs0 : List Cell) (Φ' : Vl → List Cell → Prop),
      (ks.Nodup ∧ xs = xs0.map (mpV ks) ∧ (∀ x ∈ xs0, VlB ks.length x) ∧ CsB ks.length cs0 ∧ cs0.length = ks.length ∧ ∀ (j k : Nat), ks[j]? = some k → ∃ c, cs0[j]? = some c ∧ c1[k]? = some (mpC ks c)) ∧
      a xs0 cs0 Φ' ∧ ∀ x c', Φ' x c' → (∃ d, x = .dat d ∧ c'.length = ks.length ∧ Φ (.dat d) (putAll c1 ks (c'.map (mpC ks)))) ∨ CsB ks.length (c'.take ks.length) ∧ ks.length ≤ c'.length ∧
        ((∃ d, x = .dat d ∧ Φ (.dat d) (putAll c1 ks ((c'.take ks.length).map (mpC ks)))) ∨
          ∃ c0, x = .cel ks.length ∧ c'[ks.length]? = some c0 ∧ CellB ks.length c0 ∧ Φ (.cel c1.length) (putAll c1 ks ((c'.take ks.length).map (mpC ks)) ++ [mpC ks c0]))) :
    wpE K (tCall (conc K a) [] E ta) env cs Φ := fun F B H A σ s Q q => by
  refine h F B H A σ s _ fun xs c1 vs B1 H1 A1 f e1 p1 s1 r1 => ?_
  obtain ⟨ks, xs0, cs0, Φ', ⟨hk, rfl, hxb, hcb, hl, hm⟩, ha, hq⟩ := f
  rw [List.append_nil]
  have hkA : ∀ k ∈ ks, k < A1.length := fun k hk' => by
    obtain ⟨j, hj⟩ := List.getElem?_of_mem hk'
    obtain ⟨c, _, h2⟩ := hm j k hj
    rw [s1.la]
    exact (List.getElem?_eq_some_iff.mp h2).1
  obtain ⟨A0, sb⟩ := Sub.mk' hkA
  have s2 := s1.sub sb hk hcb hl hm
  have r2 : RpVs K B1 A0 xs0 vs := Paired.mapL _ r1 fun x v hx r => RpV.down sb (hxb x hx) r
  refine ⟨_, B1, A0, xs0, cs0, Φ', s2.withEnv (some_rel r2), ha, fun x c' v B' H' A' f' e' p' s' => ?_⟩
  have hq1 : CsB ks.length (c'.take ks.length) ∧ ks.length ≤ c'.length ∧
        ((∃ d, x = .dat d ∧ Φ (.dat d) (putAll c1 ks ((c'.take ks.length).map (mpC ks)))) ∨
          ∃ c0, x = .cel ks.length ∧ c'[ks.length]? = some c0 ∧ CellB ks.length c0 ∧ Φ (.cel c1.length) (putAll c1 ks ((c'.take ks.length).map (mpC ks)) ++ [mpC ks c0])) := by
    rcases hq x c' f' with ⟨d, h1, h2, h3⟩ | h
    · have e9 : c'.take ks.length = c' := by rw [← h2, List.take_length]
      rw [e9]
      exact ⟨by rw [← h2]; exact s'.csb, Nat.le_of_eq h2.symm, .inl ⟨d, h1, h3⟩⟩
    · exact h
  obtain ⟨hb, hle, hd⟩ := hq1
  have s3 := s1.back sb hk s' e' p' hb hle
  rcases hd with ⟨d, rfl, f2⟩ | ⟨c0, rfl, hc0, hcb0, f2⟩
  · cases s'.sl with
    | cons r _ => exact q _ _ v B' H' A1 f2 (e1.trans e') p1 s3 r
  · cases s'.sl with
    | cons r _ =>
      obtain ⟨p, hp, rfl⟩ := r
      have hr := s'.ca _ p hp
      have nA : ∀ (k : Nat) (b : Addr), A1[k]? = some b → b ≠ p := fun k b q z => by
        subst z
        by_cases hA : b ∈ A0
        · obtain ⟨j, hj⟩ := List.getElem?_of_mem hA
          have e2 := List.getElem?_eq_some_iff.mp (p' _ _ hj)
          have e3 := List.getElem?_eq_some_iff.mp hp
          have e4 := (List.getElem_inj s'.nd).mp (e2.2.trans e3.2.symm)
          have := (List.getElem?_eq_some_iff.mp hj).1
          rw [sb.1] at this
          omega
        · have h2 := hr.2
          unfold rim at h2
          rw [if_pos ⟨List.mem_of_getElem? q, hA⟩] at h2
          exact s1.there q h2
      have hF : F p = none := by
        have h2 := hr.2
        unfold rim at h2
        split at h2
        · rename_i hh
          obtain ⟨k, hk'⟩ := List.getElem?_of_mem hh.1
          exact absurd rfl (nA k p hk')
        · exact h2
      have hcell : CellOk K B' A1 H' p (mpC ks c0) := (s'.ch _ p c0 hp hc0).up sb p' hcb0
      refine q _ _ _ B' H' (A1 ++ [p]) f2 (e1.trans e') (p1.trans (Pre.app A1 [p])) (s3.add hr.1 hF nA (hcell.mono (Same.refl B') (Pre.app A1 [p]) rfl) (fun t ht z => (s'.tb t ht).2.2.1 (by rw [z]; exact List.mem_of_getElem? hp))) ⟨p, ?_, rfl⟩
      rw [← s1.la, List.getElem?_append_right (Nat.le_refl _), Nat.sub_self]
      rfl
end
end G
namespace G
open PySem PySem.Spec PyProof.Rows L2
/-! ### data read off a heap -/
section
variable {X : Cx} {pins : List (Addr × Obj)} {σ : L2.St} {H : Hp} {s : Shared}
mutual
theorem Rp.reads (I : Inv X pins σ H s) : ∀ (d : D) (v : V) (u : Value), d.plain = true → Rp X.K H d v → RelV v u → ∃ as, Reads s.heap u d as
  | .none, _, _, _, h, r => by
    cases h
    cases r
    exact ⟨_, Reads.none⟩
  | .bool b, _, _, _, h, r => by
    cases h
    cases r
    exact ⟨_, Reads.bool b⟩
  | .int i, _, _, _, h, r => by
    cases h
    obtain ⟨t, rfl⟩ := r
    exact ⟨_, Reads.int i t⟩
  | .str x, _, _, _, h, r => by
    cases h
    obtain ⟨t, rfl⟩ := r
    exact ⟨_, Reads.str x t⟩
  | .list ds, _, _, hp, h, r => by
    obtain ⟨a, vs, rfl, hs, ha⟩ := h
    cases r
    obtain ⟨its, rv, ⟨o, n, ho, hc, _, hd⟩, _⟩ := I.list hs
    obtain ⟨as, hr⟩ := RpL.reads I ds vs its (by simpa [PyData.plain] using hp) ha rv
    exact ⟨_, Reads.list ho hc hd hr⟩
  | .tuple ds, _, _, hp, h, r => by
    obtain ⟨a, vs, rfl, hs, ha⟩ := h
    cases r
    obtain ⟨its, rv, ⟨o, ho, hc, n, hd⟩, _⟩ := I.tuple hs
    obtain ⟨as, hr⟩ := RpL.reads I ds vs its (by simpa [PyData.plain] using hp) ha rv
    exact ⟨_, Reads.tuple ho hc hd hr⟩
  | .dict _, _, _, hp, _, _ => nomatch hp
theorem RpL.reads (I : Inv X pins σ H s) : ∀ (ds : List D) (vs : List V) (us : List Value), PyData.plainAll ds = true → RpL X.K H ds vs → Vals vs us → ∃ as, ReadsAll s.heap us ds as
  | [], _, _, _, h, r => by
    cases h
    cases r
    exact ⟨_, ReadsAll.nil⟩
  | d :: ds, _, _, hp, h, r => by
    obtain ⟨v, vs, rfl, h1, h2⟩ := h
    have hp' : d.plain = true ∧ PyData.plainAll ds = true := by simpa [PyData.plainAll] using hp
    cases r with
    | cons r1 r2 =>
      obtain ⟨as, q1⟩ := Rp.reads I d _ _ hp'.1 h1 r1
      obtain ⟨bs, q2⟩ := RpL.reads I ds _ _ hp'.2 h2 r2
      exact ⟨_, ReadsAll.cons q1 q2⟩
end
end
/-- a value that is data as it stands: data, or a cell that holds a list of data -/
def DatOf (cs : List Cell) (x : Vl) (d : D) : Prop := x = .dat d ∨ ∃ (k : Nat) (ds : List D), x = .cel k ∧ cs[k]? = some (.lst (ds.map .dat)) ∧ d = .list ds
theorem DatOf.dat {cs : List Cell} {d : D} : DatOf cs (.dat d) d := .inl rfl
theorem DatOf.cel {cs : List Cell} {k : Nat} {ds : List D} (h : cs[k]? = some (.lst (ds.map .dat))) : DatOf cs (.cel k) (.list ds) := .inr ⟨k, ds, rfl, h, rfl⟩
theorem St.asD {K : PySem.W.Frag} {F B H : Hp} {A : List Addr} {env : Env} {cs : List Cell} {σ : L2.St} {x : Vl} {v : V} {d : D} (s : St K F B H A env cs σ) (r : RpV K B A x v) (h : DatOf cs x d) : Rp K H d v := by
  rcases h with rfl | ⟨k, ds, rfl, hc, rfl⟩
  · exact Rp.mono s.eb r
  · obtain ⟨a, ha, rfl⟩ := r
    obtain ⟨vs, h1, h2⟩ := s.ch k a _ ha hc
    exact ⟨a, vs, rfl, SqL.of h1, (RpVs.dats h2).mono s.eb⟩
/-! ### == != in of data -/
section
variable {X : Cx}
def gEq (K : PySem.W.Frag) : R2 := fun x y H Q => ∃ d e, Rp K H d x ∧ Rp K H e y ∧ d.plain = true ∧ e.plain = true ∧ min d.depth e.depth ≤ 64 ∧ Q (.bl (PyData.eqv d e)) H
def gNe (K : PySem.W.Frag) : R2 := fun x y H Q => ∃ d e, Rp K H d x ∧ Rp K H e y ∧ d.plain = true ∧ e.plain = true ∧ min d.depth e.depth ≤ 64 ∧ Q (.bl (!PyData.eqv d e)) H
theorem go_eq (hu : X.A.units + 64 < cLine) : OpR X (compareOp .Eq) (gEq X.K) := by
  intro pins s σ H x y v u Q I rx ry h
  obtain ⟨d, e, hd, he, pd, pe, hm, q⟩ := h
  obtain ⟨as, r1⟩ := Rp.reads I d x v pd hd rx
  obtain ⟨bs, r2⟩ := Rp.reads I e y u pe he ry
  exact SeqAt.eq_plain r1 r2 pd pe (by omega) ⟨.bl _, H, I, rfl, q⟩
def gIn (K : PySem.W.Frag) (neg : Bool) : R2 := fun x y H Q => ∃ d es, Rp K H d x ∧ (Rp K H (.list es) y ∨ Rp K H (.tuple es) y) ∧ d.plain = true ∧ PyData.plainAll es = true ∧ min (PyData.depthAll es) d.depth ≤ 60 ∧ Q (.bl (if neg then !(es.any fun z => PyData.eqv z d) else es.any fun z => PyData.eqv z d)) H
theorem go_in (hu : X.A.units + 64 < cLine) : OpR X (compareOp .In) (gIn X.K false) := by
  intro pins s σ H x y v u Q I rx ry h
  obtain ⟨d, es, hd, he, pd, pe, hm, q⟩ := h
  obtain ⟨as, r1⟩ := Rp.reads I d x v pd hd rx
  rcases he with he | he
  · obtain ⟨bs, r2⟩ := Rp.reads I (.list es) y u (by simpa [PyData.plain] using pe) he ry
    exact SeqAt.in_list_data r2 r1 pe pd (by omega) ⟨.bl _, H, I, rfl, q⟩
  · obtain ⟨bs, r2⟩ := Rp.reads I (.tuple es) y u (by simpa [PyData.plain] using pe) he ry
    exact SeqAt.in_tuple_data r2 r1 pe pd (by omega) ⟨.bl _, H, I, rfl, q⟩
theorem go_nin (hu : X.A.units + 64 < cLine) : OpR X (compareOp .NotIn) (gIn X.K true) := by
  intro pins s σ H x y v u Q I rx ry h
  obtain ⟨d, es, hd, he, pd, pe, hm, q⟩ := h
  obtain ⟨as, r1⟩ := Rp.reads I d x v pd hd rx
  rcases he with he | he
  · obtain ⟨bs, r2⟩ := Rp.reads I (.list es) y u (by simpa [PyData.plain] using pe) he ry
    exact SeqAt.notIn_list_data r2 r1 pe pd (by omega) ⟨.bl _, H, I, rfl, q⟩
  · obtain ⟨bs, r2⟩ := Rp.reads I (.tuple es) y u (by simpa [PyData.plain] using pe) he ry
    exact SeqAt.notIn_tuple_data r2 r1 pe pd (by omega) ⟨.bl _, H, I, rfl, q⟩
/-- a ** b, great ones -/
def CPowW (i j : Int) : Prop := 0 ≤ j ∧ (Builtin.Int.intBits i : Int) * j ≤ 2 ^ 27
theorem go_pow : OpR X (binaryOp .Pow) (rI CPowW fun i j => .int (i ^ j.toNat)) := opI fun _ _ _ _ _ _ _ hc q => pow_int hc.1 hc.2 q
/-- texts -/
def gAddS : R2 := fun x y H Q => ∃ i j, x = .str i ∧ y = .str j ∧ i.length + j.length ≤ sizeLine ∧ Q (.str (i ++ j)) H
theorem go_adds : OpR X (binaryOp .Add) gAddS := op_add_str
def gInS (neg : Bool) : R2 := fun x y H Q => ∃ (c : Nat) (z : Str), x = .str ⟨#[c]⟩ ∧ y = .str z ∧ Q (.bl (if neg then !decide (c ∈ z.cps.toList) else decide (c ∈ z.cps.toList))) H
theorem go_ins : OpR X (compareOp .In) (gInS false) := op_in_sign
theorem go_nins : OpR X (compareOp .NotIn) (gInS true) := op_notIn_sign
def gLen (K : PySem.W.Frag) : List V → Hp → VK → Prop := fun xs H Q => ∃ x n, xs = [x] ∧ LenV K x H n ∧ Q (.int n) H
theorem gc_len : CallR X (.builtin "len") (gLen X.K) := call_len
def gAbs : List V → Hp → VK → Prop := fun xs H Q => ∃ i, xs = [.int i] ∧ Q (.int (if i < 0 then -i else i)) H
def gMax2 : List V → Hp → VK → Prop := fun xs H Q => ∃ i j, xs = [.int i, .int j] ∧ Q (.int (if j > i then j else i)) H
def gMin2 : List V → Hp → VK → Prop := fun xs H Q => ∃ i j, xs = [.int i, .int j] ∧ Q (.int (if j < i then j else i)) H
def gInt1 : List V → Hp → VK → Prop := fun xs H Q => (∃ i, xs = [.int i] ∧ Q (.int i) H) ∨ ∃ k, xs = [.bl k] ∧ Q (.int (if k then 1 else 0)) H
def gJoin (K : PySem.W.Frag) : V → List V → Hp → VK → Prop := fun x xs H Q => ∃ a p, ∃ ys : List Str, x = .str a ∧ xs = [.ref p] ∧ (SqL K H p (ys.map V.str) ∨ SqT K H p (ys.map V.str)) ∧ (ys.map (·.length)).sum + ys.length * a.length ≤ 16777216 ∧ Q (.str (Txt.join a ys)) H
theorem gp_join {o e : Expr} {to te : TE} {apos pos : Pos} (ho : PE X o to) (he : PE X e te) (hs : starEach [e] X.env = [(false, eval e X.env)] := by rfl) (hbase : attributeBase o "join" X.env (eval o X.env) = eval o X.env := by rfl) (hline : (apos.endLine == pos.line) = true := by rfl) :
    PE X (.Call (.Attribute o "join" apos) [e] [] pos) (tM1 (gJoin X.K) to te) := pe_join ho he hs hbase hline
end
/-! ### isinstance -/
/-- the mark of a tuple that has no dict -/
def isXt : List (PyData × PyData) → Bool
  | (.bool true, _) :: _ => true
  | _ => false
def tyN : D → String
  | .none => "NoneType" | .bool _ => "bool" | .int _ => "int" | .str _ => "str" | .list _ => "list" | .tuple _ => "tuple" | .dict kvs => bif isXt kvs then "tuple" else "dict"
def isD (n : String) (d : D) : Bool := (kitB (tyN d) n).getD false
theorem Rp.ty {K : PySem.W.Frag} {H : Hp} {d : D} {v : V} (h : Rp K H d v) : TyX K H v (.type (tyN d)) := by
  cases d with
  | none => cases h; exact .base .non
  | bool b => cases h; exact .base (.bl b)
  | int b => cases h; exact .base (.int b)
  | str b => cases h; exact .base (.str b)
  | list ds =>
    obtain ⟨a, vs, rfl, hs, _⟩ := h
    rcases hs with (hs | ⟨o, hs⟩) | ⟨o, its, n, hk, hc, _⟩
    · exact .base (.lst hs)
    · exact .base (.frz hs)
    · exact .kList hk hc
  | tuple ds =>
    obtain ⟨a, vs, rfl, hs, _⟩ := h
    rcases hs with (hs | ⟨o, hs⟩) | ⟨o, its, n, hk, hc, _⟩
    · exact .base (.tup hs)
    · exact .fTuple hs
    · exact .kTuple hk hc
  | dict kvs =>
    obtain ⟨a, rfl, h⟩ := h
    cases kvs with
    | nil =>
      obtain ⟨ws, hs | ⟨o, hs⟩⟩ := h
      · exact .base (.dK hs)
      · exact .fDict hs
    | cons p r =>
      obtain ⟨k, d⟩ := p
      obtain ⟨h1, h0, h2⟩ := h
      rcases h0 with rfl | rfl
      · obtain ⟨o, ws, h3, _⟩ := h1 rfl
        exact .fDict h3
      · show TyX K H (.ref a) (.type "tuple")
        obtain ⟨⟨ds, rfl⟩, hr, _⟩ := h2 rfl
        obtain ⟨a', vs, e, hs, _⟩ := hr
        cases e
        rcases hs with (hs | ⟨o, hs⟩) | ⟨o, its, n, hk, hc, _⟩
        · exact .base (.tup hs)
        · exact .fTuple hs
        · exact .kTuple hk hc
section
variable {K : PySem.W.Frag} {F B H : Hp} {A : List Addr} {env : Env} {cs : List Cell} {σ : L2.St} {Φ : Vl → List Cell → Prop} {Q : VK} {ta tb te : TE} {x y : Vl}
theorem kit_t : ∀ t ∈ ["NoneType", "bool", "int", "str", "list", "tuple", "dict"], ∀ n ∈ ["str", "tuple", "int", "bool", "list", "dict"], (kitB t n).isSome = true := by decide +kernel
theorem isD_str : ∀ d : D, isD "str" d = (match d with | .str _ => true | _ => false)
  | .none => (by decide +kernel : (kitB "NoneType" "str").getD false = false) | .bool _ => (by decide +kernel : (kitB "bool" "str").getD false = false) | .int _ => (by decide +kernel : (kitB "int" "str").getD false = false) | .str _ => (by decide +kernel : (kitB "str" "str").getD false = true)
  | .list _ => (by decide +kernel : (kitB "list" "str").getD false = false) | .tuple _ => (by decide +kernel : (kitB "tuple" "str").getD false = false) | .dict kvs => (by show (kitB (bif isXt kvs then "tuple" else "dict") "str").getD false = false; cases isXt kvs <;> decide +kernel)
theorem isD_tuple : ∀ d : D, isD "tuple" d = (match d with | .tuple _ => true | .dict kvs => isXt kvs | _ => false)
  | .none => (by decide +kernel : (kitB "NoneType" "tuple").getD false = false) | .bool _ => (by decide +kernel : (kitB "bool" "tuple").getD false = false) | .int _ => (by decide +kernel : (kitB "int" "tuple").getD false = false) | .str _ => (by decide +kernel : (kitB "str" "tuple").getD false = false)
  | .list _ => (by decide +kernel : (kitB "list" "tuple").getD false = false) | .tuple _ => (by decide +kernel : (kitB "tuple" "tuple").getD false = true) | .dict kvs => (by show (kitB (bif isXt kvs then "tuple" else "dict") "tuple").getD false = isXt kvs; cases isXt kvs <;> decide +kernel)
theorem isD_list : ∀ d : D, isD "list" d = (match d with | .list _ => true | _ => false)
  | .none => (by decide +kernel : (kitB "NoneType" "list").getD false = false) | .bool _ => (by decide +kernel : (kitB "bool" "list").getD false = false) | .int _ => (by decide +kernel : (kitB "int" "list").getD false = false) | .str _ => (by decide +kernel : (kitB "str" "list").getD false = false)
  | .list _ => (by decide +kernel : (kitB "list" "list").getD false = true) | .tuple _ => (by decide +kernel : (kitB "tuple" "list").getD false = false) | .dict kvs => (by show (kitB (bif isXt kvs then "tuple" else "dict") "list").getD false = false; cases isXt kvs <;> decide +kernel)
theorem isD_bool : ∀ d : D, isD "bool" d = (match d with | .bool _ => true | _ => false)
  | .none => (by decide +kernel : (kitB "NoneType" "bool").getD false = false) | .bool _ => (by decide +kernel : (kitB "bool" "bool").getD false = true) | .int _ => (by decide +kernel : (kitB "int" "bool").getD false = false) | .str _ => (by decide +kernel : (kitB "str" "bool").getD false = false)
  | .list _ => (by decide +kernel : (kitB "list" "bool").getD false = false) | .tuple _ => (by decide +kernel : (kitB "tuple" "bool").getD false = false) | .dict kvs => (by show (kitB (bif isXt kvs then "tuple" else "dict") "bool").getD false = false; cases isXt kvs <;> decide +kernel)
theorem isD_int : ∀ d : D, isD "int" d = (match d with | .int _ => true | .bool _ => true | _ => false)
  | .none => (by decide +kernel : (kitB "NoneType" "int").getD false = false) | .bool _ => (by decide +kernel : (kitB "bool" "int").getD false = true) | .int _ => (by decide +kernel : (kitB "int" "int").getD false = true) | .str _ => (by decide +kernel : (kitB "str" "int").getD false = false)
  | .list _ => (by decide +kernel : (kitB "list" "int").getD false = false) | .tuple _ => (by decide +kernel : (kitB "tuple" "int").getD false = false) | .dict kvs => (by show (kitB (bif isXt kvs then "tuple" else "dict") "int").getD false = false; cases isXt kvs <;> decide +kernel)
theorem kit_all (n : String) (h : n = "str" ∨ n = "tuple" ∨ n = "int" ∨ n = "bool" ∨ n = "list" ∨ n = "dict") (d : D) : kitB (tyN d) n = some (isD n d) := by
  have e : (kitB (tyN d) n).isSome = true := kit_t _ (by cases d with | dict kvs => (cases e : isXt kvs <;> simp [tyN, e]) | _ => simp [tyN]) _ (by rcases h with rfl | rfl | rfl | rfl | rfl | rfl <;> simp)
  unfold isD
  cases q : kitB (tyN d) n with
  | none =>
    rw [q] at e
    cases e
  | some b => rfl
theorem we_isi {n : String} (hn : n = "str" ∨ n = "tuple" ∨ n = "int" ∨ n = "bool" ∨ n = "list" ∨ n = "dict") (h : wpE K te env cs fun x c => ∃ d, DatOf c x d ∧ Φ (.dat (.bool (isD n d))) c) : wpE K (tCB (rIsi K) (tCons te (tCons (tC (.ty n)) tNil))) env cs Φ := fun F B H A σ s Q q =>
  h F B H A σ s _ fun x c v B1 H1 A1 f e1 p1 s1 r1 => by
    obtain ⟨d, hd, f⟩ := f
    exact ⟨v, .ty n, .type (tyN d), .type n, isD n d, rfl, .ty n, (s1.asD r1 hd).ty, kit_ty (kit_all n hn d), (q.on e1 p1).now s1 (x := .dat (.bool (isD n d))) rfl f⟩
/-! ### values -/
theorem wr_eq {d e : D} (hx : DatOf cs x d) (hy : DatOf cs y e) (pd : d.plain = true) (pe : e.plain = true) (hm : min d.depth e.depth ≤ 64) (f : Φ (.dat (.bool (PyData.eqv d e))) cs) : wpR K (gEq K) x y env cs Φ := fun F B H A σ v w s r1 r2 Q q =>
  ⟨d, e, s.asD r1 hx, s.asD r2 hy, pd, pe, hm, q.now s (x := .dat (.bool (PyData.eqv d e))) rfl f⟩
theorem wr_ne {d e : D} (hx : DatOf cs x d) (hy : DatOf cs y e) (pd : d.plain = true) (pe : e.plain = true) (hm : min d.depth e.depth ≤ 64) (f : Φ (.dat (.bool (!PyData.eqv d e))) cs) : wpR K (gNe K) x y env cs Φ := fun F B H A σ v w s r1 r2 Q q =>
  ⟨d, e, s.asD r1 hx, s.asD r2 hy, pd, pe, hm, q.now s (x := .dat (.bool (!PyData.eqv d e))) rfl f⟩
theorem wr_eqI {i j : Int} (hx : x = .dat (.int i)) (hy : y = .dat (.int j)) (f : Φ (.dat (.bool (decide (i = j)))) cs) : wpR K (gEq K) x y env cs Φ := by
  subst hx hy
  exact wr_eq .dat .dat rfl rfl (by simp [PyData.depth]) (by
    have e : PyData.eqv (.int i) (.int j) = decide (i = j) := by
      show (i == j) = decide (i = j)
      exact rfl
    rw [e]
    exact f)
theorem wr_neI {i j : Int} (hx : x = .dat (.int i)) (hy : y = .dat (.int j)) (f : Φ (.dat (.bool (!decide (i = j)))) cs) : wpR K (gNe K) x y env cs Φ := by
  subst hx hy
  exact wr_ne .dat .dat rfl rfl (by simp [PyData.depth]) f
theorem wr_in {d : D} {es : List D} (hx : DatOf cs x d) (hy : DatOf cs y (.list es) ∨ DatOf cs y (.tuple es)) (pd : d.plain = true) (pe : PyData.plainAll es = true) (hm : min (PyData.depthAll es) d.depth ≤ 60) (f : Φ (.dat (.bool (es.any fun z => PyData.eqv z d))) cs) : wpR K (gIn K false) x y env cs Φ := fun F B H A σ v w s r1 r2 Q q =>
  ⟨d, es, s.asD r1 hx, hy.imp (s.asD r2) (s.asD r2), pd, pe, hm, q.now s (x := .dat (.bool (es.any fun z => PyData.eqv z d))) rfl f⟩
theorem wr_nin {d : D} {es : List D} (hx : DatOf cs x d) (hy : DatOf cs y (.list es) ∨ DatOf cs y (.tuple es)) (pd : d.plain = true) (pe : PyData.plainAll es = true) (hm : min (PyData.depthAll es) d.depth ≤ 60) (f : Φ (.dat (.bool (!es.any fun z => PyData.eqv z d))) cs) : wpR K (gIn K true) x y env cs Φ := fun F B H A σ v w s r1 r2 Q q =>
  ⟨d, es, s.asD r1 hx, hy.imp (s.asD r2) (s.asD r2), pd, pe, hm, q.now s (x := .dat (.bool (!es.any fun z => PyData.eqv z d))) rfl f⟩
theorem wr_adds {i j : Str} (hx : x = .dat (.str i)) (hy : y = .dat (.str j)) (hl : i.length + j.length ≤ 1000000) (f : Φ (.dat (.str (i ++ j))) cs) : wpR K gAddS x y env cs Φ := fun F B H A σ v w s r1 r2 Q q => by
  subst hx hy
  exact ⟨i, j, r1, r2, Nat.le_trans hl (by decide), q.now s (x := .dat (.str (i ++ j))) rfl f⟩
theorem wr_ins {c : Nat} {z : Str} (hx : x = .dat (.str ⟨#[c]⟩)) (hy : y = .dat (.str z)) (f : Φ (.dat (.bool (decide (c ∈ z.cps.toList)))) cs) : wpR K (gInS false) x y env cs Φ := fun F B H A σ v w s r1 r2 Q q => by
  subst hx hy
  exact ⟨c, z, r1, r2, q.now s (x := .dat (.bool (decide (c ∈ z.cps.toList)))) rfl f⟩
theorem wr_nins {c : Nat} {z : Str} (hx : x = .dat (.str ⟨#[c]⟩)) (hy : y = .dat (.str z)) (f : Φ (.dat (.bool (!decide (c ∈ z.cps.toList)))) cs) : wpR K (gInS true) x y env cs Φ := fun F B H A σ v w s r1 r2 Q q => by
  subst hx hy
  exact ⟨c, z, r1, r2, q.now s (x := .dat (.bool (!decide (c ∈ z.cps.toList)))) rfl f⟩
/-- items -/
theorem atI_rel {α β : Type} {xs : List α} {ys : List β} {i : Int} {x : α} (hl : ys.length = xs.length) (h : atI xs i = some x) : ∃ j : Nat, ixN xs.length i = some j ∧ xs[j]? = some x ∧ atI ys i = ys[j]? := by
  unfold atI at h ⊢
  cases e : ixN xs.length i with
  | none =>
    rw [e] at h
    cases h
  | some j =>
    rw [e] at h
    exact ⟨j, rfl, h, by rw [hl, e]; rfl⟩
theorem wr_ixT {ds : List D} {i : Int} {d : D} (hx : x = .dat (.tuple ds)) (hy : y = .dat (.int i)) (h : atI ds i = some d) (f : Φ (.dat d) cs) : wpR K (rIxT K) x y env cs Φ := fun F B H A σ v w s r1 r2 Q q => by
  subst hx hy
  obtain ⟨a, vs, rfl, hs, hr⟩ := r1
  obtain ⟨j, e1, e2, e3⟩ := atI_rel hr.length h
  obtain ⟨v, hv, hd⟩ := hr.get e2
  exact ⟨a, vs, i, v, rfl, r2, sqT_mono s.eb hs, by rw [e3]; exact hv, q.now s (x := .dat d) hd f⟩
theorem wr_ixL {ds : List D} {i : Int} {d : D} (hx : x = .dat (.list ds)) (hy : y = .dat (.int i)) (h : atI ds i = some d) (f : Φ (.dat d) cs) : wpR K (rIxL K) x y env cs Φ := fun F B H A σ v w s r1 r2 Q q => by
  subst hx hy
  obtain ⟨a, vs, rfl, hs, hr⟩ := r1
  obtain ⟨j, e1, e2, e3⟩ := atI_rel hr.length h
  obtain ⟨v, hv, hd⟩ := hr.get e2
  exact ⟨a, vs, i, v, rfl, r2, sqL_mono s.eb hs, by rw [e3]; exact hv, q.now s (x := .dat d) hd f⟩
theorem wr_ixC {xs : List Vl} {k : Nat} {i : Int} {z : Vl} (hx : x = .cel k) (hy : y = .dat (.int i)) (hc : cs[k]? = some (.lst xs)) (h : atI xs i = some z) (f : Φ z cs) : wpR K (rIxL K) x y env cs Φ := fun F B H A σ v w s r1 r2 Q q => by
  subst hx hy
  obtain ⟨a, ha, rfl⟩ := r1
  obtain ⟨vs, hs, hr⟩ := s.ch k a _ ha hc
  obtain ⟨j, e1, e2, e3⟩ := atI_rel (Paired.length hr).symm h
  obtain ⟨v, hv, hd⟩ := Paired.get' hr e2
  exact ⟨a, vs, i, v, rfl, r2, SqL.of hs, by rw [e3]; exact hv, q.now s hd f⟩
theorem wr_ixS {z : Str} {i : Int} {c : Nat} (hx : x = .dat (.str z)) (hy : y = .dat (.int i)) (hl : z.length ≤ 1000000) (h : atI z.cps.toList i = some c) (f : Φ (.dat (.str ⟨#[c]⟩)) cs) : wpR K rIxS x y env cs Φ := fun F B H A σ v w s r1 r2 Q q => by
  subst hx hy
  exact ⟨z, i, c, r1, r2, Nat.le_trans hl (by decide), h, q.now s (x := .dat (.str ⟨#[c]⟩)) rfl f⟩
/-! ### calls by values -/
theorem wc_len {d : D} {n : Nat} (hx : DatOf cs x d) (hd : (∃ z, d = .str z ∧ z.length ≤ 1000000 ∧ n = z.length) ∨ (∃ ds, (d = .tuple ds ∨ d = .list ds) ∧ n = ds.length)) (f : Φ (.dat (.int n)) cs) : wpC K (gLen K) [x] env cs Φ := fun F B H A σ vs s r Q q => by
  cases r with
  | cons r1 r2 =>
    cases r2
    have hr := s.asD r1 hx
    refine ⟨_, n, rfl, ?_, q.now s (x := .dat (.int n)) rfl f⟩
    rcases hd with ⟨z, rfl, hz, rfl⟩ | ⟨ds, rfl | rfl, rfl⟩
    · have e : _ = V.str z := hr
      rw [e]
      exact ⟨Nat.le_trans hz (by decide), rfl⟩
    · obtain ⟨a, vs, rfl, hs, hr⟩ := hr
      exact .inr ⟨vs, hs, hr.length.symm⟩
    · obtain ⟨a, vs, rfl, hs, hr⟩ := hr
      exact .inl ⟨vs, hs, hr.length.symm⟩
theorem wc_lenS {z : Str} (hx : x = .dat (.str z)) (hz : z.length ≤ 1000000) (f : Φ (.dat (.int (z.length : Nat))) cs) : wpC K (gLen K) [x] env cs Φ := wc_len (.inl hx) (.inl ⟨z, rfl, hz, rfl⟩) f
theorem wc_lenT {ds : List D} (hx : x = .dat (.tuple ds)) (f : Φ (.dat (.int (ds.length : Nat))) cs) : wpC K (gLen K) [x] env cs Φ := wc_len (.inl hx) (.inr ⟨ds, .inl rfl, rfl⟩) f
theorem wc_lenL {ds : List D} (hx : DatOf cs x (.list ds)) (f : Φ (.dat (.int (ds.length : Nat))) cs) : wpC K (gLen K) [x] env cs Φ := wc_len hx (.inr ⟨ds, .inr rfl, rfl⟩) f
theorem wc_all {bs : List Bool} (hx : DatOf cs x (.list (bs.map .bool))) (f : Φ (.dat (.bool (bs.all id))) cs) : wpC K (rAll K) [x] env cs Φ := fun F B H A σ vs s r Q q => by
  cases r with
  | cons r1 r2 =>
    cases r2
    obtain ⟨a, vs, rfl, hs, hr⟩ := s.asD r1 hx
    rw [RpL.bls_inv hr] at hs
    exact ⟨a, bs, rfl, hs, q.now s (x := .dat (.bool (bs.all id))) rfl f⟩
theorem wc_any {bs : List Bool} (hx : DatOf cs x (.list (bs.map .bool))) (f : Φ (.dat (.bool (bs.any id))) cs) : wpC K (rAny K) [x] env cs Φ := fun F B H A σ vs s r Q q => by
  cases r with
  | cons r1 r2 =>
    cases r2
    obtain ⟨a, vs, rfl, hs, hr⟩ := s.asD r1 hx
    rw [RpL.bls_inv hr] at hs
    exact ⟨a, bs, rfl, hs, q.now s (x := .dat (.bool (bs.any id))) rfl f⟩
theorem wc_abs {i : Int} (hx : x = .dat (.int i)) (f : Φ (.dat (.int (if i < 0 then -i else i))) cs) : wpC K gAbs [x] env cs Φ := fun F B H A σ vs s r Q q => by
  subst hx
  cases r with
  | cons r1 r2 =>
    cases r2
    have e : _ = V.int i := r1
    rw [e]
    exact ⟨i, rfl, q.now s (x := .dat (.int (if i < 0 then -i else i))) rfl f⟩
theorem wc_max2 {i j : Int} (hx : x = .dat (.int i)) (hy : y = .dat (.int j)) (f : Φ (.dat (.int (if j > i then j else i))) cs) : wpC K gMax2 [x, y] env cs Φ := fun F B H A σ vs s r Q q => by
  subst hx hy
  cases r with
  | cons r1 r2 =>
    cases r2 with
    | cons r2 r3 =>
      cases r3
      have e : _ = V.int i := r1
      have e2 : _ = V.int j := r2
      rw [e, e2]
      exact ⟨i, j, rfl, q.now s (x := .dat (.int (if j > i then j else i))) rfl f⟩
theorem wc_min2 {i j : Int} (hx : x = .dat (.int i)) (hy : y = .dat (.int j)) (f : Φ (.dat (.int (if j < i then j else i))) cs) : wpC K gMin2 [x, y] env cs Φ := fun F B H A σ vs s r Q q => by
  subst hx hy
  cases r with
  | cons r1 r2 =>
    cases r2 with
    | cons r2 r3 =>
      cases r3
      have e : _ = V.int i := r1
      have e2 : _ = V.int j := r2
      rw [e, e2]
      exact ⟨i, j, rfl, q.now s (x := .dat (.int (if j < i then j else i))) rfl f⟩
theorem wc_int1 {k : Bool} (hx : x = .dat (.bool k)) (f : Φ (.dat (.int (if k then 1 else 0))) cs) : wpC K gInt1 [x] env cs Φ := fun F B H A σ vs s r Q q => by
  subst hx
  cases r with
  | cons r1 r2 =>
    cases r2
    have e : _ = V.bl k := r1
    rw [e]
    exact .inr ⟨k, rfl, q.now s (x := .dat (.int (if k then 1 else 0))) rfl f⟩
/-! ### methods -/
theorem we_m1 {r : V → List V → Hp → VK → Prop} (h : wpE K ta env cs fun x c1 => (∃ z, x = .dat (.str z)) ∧ wpE K te env c1 fun y c2 => wpM K r x [y] env c2 Φ) : wpE K (tM1 r ta te) env cs Φ := fun F B H A σ s Q q =>
  h F B H A σ s _ fun x c1 v B1 H1 A1 f e1 p1 s1 r1 => by
    obtain ⟨⟨z, rfl⟩, f⟩ := f
    exact ⟨⟨z, r1⟩, f F B1 H1 A1 σ s1 _ fun y c2 w B2 H2 A2 g e2 p2 s2 r2 => g F B2 H2 A2 σ v [w] s2 (r1.mono e2 p2) (.cons r2 .nil) Q (q.on (e1.trans e2) (p1.trans p2))⟩
theorem we_m0 {r : V → List V → Hp → VK → Prop} (h : wpE K ta env cs fun x c1 => (∃ z, x = .dat (.str z)) ∧ wpM K r x [] env c1 Φ) : wpE K (tM0 r ta) env cs Φ := fun F B H A σ s Q q =>
  h F B H A σ s _ fun x c1 v B1 H1 A1 f e1 p1 s1 r1 => by
    obtain ⟨⟨z, rfl⟩, f⟩ := f
    exact ⟨⟨z, r1⟩, f F B1 H1 A1 σ v [] s1 r1 .nil Q (q.on e1 p1)⟩
theorem wm_join {a : Str} {ys : List Str} (hx : x = .dat (.str a)) (hy : DatOf cs y (.list (ys.map .str)) ∨ DatOf cs y (.tuple (ys.map .str))) (hl : (ys.map (·.length)).sum + ys.length * a.length ≤ 16777216) (f : Φ (.dat (.str (Txt.join a ys))) cs) : wpM K (gJoin K) x [y] env cs Φ := fun F B H A σ v vs s r1 rs Q q => by
  subst hx
  cases rs with
  | cons r2 r3 =>
    cases r3
    have fin := q.now s (x := .dat (.str (Txt.join a ys))) (v := .str (Txt.join a ys)) rfl f
    rcases hy with hy | hy
    · obtain ⟨p, vs, rfl, hs, hr⟩ := s.asD r2 hy
      rw [RpL.strs_inv hr] at hs
      exact ⟨a, p, ys, r1, rfl, .inl hs, hl, fin⟩
    · obtain ⟨p, vs, rfl, hs, hr⟩ := s.asD r2 hy
      rw [RpL.strs_inv hr] at hs
      exact ⟨a, p, ys, r1, rfl, .inr hs, hl, fin⟩
/-- slices -/
theorem wo_none {Φ : Option Int → List Cell → Prop} (f : Φ none cs) : wpO K tNoPart env cs Φ := fun F B H A σ s Q q => q none cs B H A f (Same.refl B) (Pre.refl A) s
theorem wo_some {Φ : Option Int → List Cell → Prop} (h : wpE K te env cs fun x c => ∃ i, x = .dat (.int i) ∧ Φ (some i) c) : wpO K (tPart te) env cs Φ := fun F B H A σ s Q q =>
  h F B H A σ s _ fun x c1 v B1 H1 A1 f e1 p1 s1 r1 => by
    obtain ⟨i, rfl, f⟩ := f
    exact ⟨i, r1, q (some i) c1 B1 H1 A1 f e1 p1 s1⟩
theorem we_sl {r : V → Option Int → Option Int → Hp → VK → Prop} {tl th : TO} (h : wpE K te env cs fun x c1 => wpO K tl env c1 fun lo c2 => wpO K th env c2 fun hi c3 => wpX K r x lo hi env c3 Φ) : wpE K (L2.tSl r te tl th) env cs Φ := fun F B H A σ s Q q =>
  h F B H A σ s _ fun x c1 v B1 H1 A1 f e1 p1 s1 r1 => f F B1 H1 A1 σ s1 _ fun lo c2 B2 H2 A2 f2 e2 p2 s2 => f2 F B2 H2 A2 σ s2 _ fun hi c3 B3 H3 A3 f3 e3 p3 s3 =>
    f3 F B3 H3 A3 σ v s3 ((r1.mono e2 p2).mono e3 p3) Q ((q.on (e1.trans e2) (p1.trans p2)).on e3 p3)
theorem wx_str {z : Str} {lo hi : Option Int} (hx : x = .dat (.str z)) (hl : z.length ≤ 1000000) (f : Φ (.dat (.str (cutS z lo hi))) cs) : wpX K rSlS x lo hi env cs Φ := fun F B H A σ v s r1 Q q => by
  subst hx
  exact ⟨z, r1, Nat.le_trans hl (by decide), q.now s (x := .dat (.str (cutS z lo hi))) rfl f⟩
/-- o[i] = v, a list -/
theorem wg_setL {to ti : TE} {Φ : Env → List Cell → Prop} (h : wpE K to env cs fun o c1 => wpE K ti env c1 fun i c2 => ∃ (k : Nat) (xs : List Vl) (n : Int) (j : Nat), o = .cel k ∧ i = .dat (.int n) ∧ c2[k]? = some (.lst xs) ∧ ixN xs.length n = some j ∧ Φ env (c2.set k (.lst (xs.set j x)))) : wpG K (gSub to ti rSetL) x env cs Φ := fun F B H A σ v s r N q =>
  h F B H A σ s _ fun o c1 ov B1 H1 A1 f e1 p1 s1 r1 => f F B1 H1 A1 σ s1 _ fun i c2 iv B2 H2 A2 g e2 p2 s2 r2 => by
    obtain ⟨k, xs, n, j, rfl, rfl, hc, hj, f2⟩ := g
    obtain ⟨a, ha, rfl⟩ := r1.mono e2 p2
    obtain ⟨vs, hs, hr⟩ := s2.ch k a _ ha hc
    have hv : RpV K B2 A2 x v := r.mono (e1.trans e2) (p1.trans p2)
    exact ⟨a, vs, n, j, rfl, r2, hs, by rw [← Paired.length hr]; exact hj, q env _ σ B2 _ A2 f2 (e1.trans e2) (p1.trans p2) (s2.put ha ⟨_, upd_same, Paired.set' hv j hr⟩)⟩
/-- xs.append(e) -/
theorem we_append (h : wpE K ta env cs fun x c1 => ∃ k, x = .cel k ∧ (∃ xs, c1[k]? = some (.lst xs)) ∧ wpE K te env c1 fun y c2 => ∃ xs, c2[k]? = some (.lst xs) ∧ xs.length ≤ 1000000 ∧ Φ (.dat .none) (c2.set k (.lst (xs ++ [y])))) : wpE K (tBM K "list" rAppend ta (tCons te tNil)) env cs Φ := fun F B H A σ s Q q =>
  h F B H A σ s _ fun x c1 v B1 H1 A1 f e1 p1 s1 r1 => by
    obtain ⟨k, rfl, ⟨xs0, hc0⟩, f⟩ := f
    obtain ⟨a, ha, rfl⟩ := r1
    obtain ⟨vs0, hs0, _⟩ := s1.ch k a _ ha hc0
    refine ⟨.inl ⟨rfl, vs0, SqL.of hs0⟩, f F B1 H1 A1 σ s1 _ fun y c2 w B2 H2 A2 g e2 p2 s2 r2 => ?_⟩
    obtain ⟨xs, hc, hl, f2⟩ := g
    obtain ⟨vs, hs, hr⟩ := s2.ch k a _ (p2 _ _ ha) hc
    exact ⟨a, vs, w, rfl, rfl, hs, by rw [← Paired.length hr]; exact Nat.lt_of_le_of_lt hl (by decide), q _ _ _ B2 _ A2 f2 (e1.trans e2) (p1.trans p2) (s2.put (p2 _ _ ha) ⟨_, upd_same, Paired.app' hr (.cons r2 .nil)⟩) rfl⟩
end
end G
namespace G
open PySem PySem.Spec PyProof.Rows L2
/-! ### operators whatever the kind -/
section
variable {X : Cx}
/-- list + list, those of the module too -/
def rCatL (K : PySem.W.Frag) : R2 := fun x y H Q => ∃ l b xs zs, x = .ref l ∧ y = .ref b ∧ SqL K H l xs ∧ SqL K H b zs ∧ xs.length + zs.length ≤ sizeLine ∧ ∀ p, H p = none → Q (.ref p) (upd H p (.lst (xs ++ zs)))
theorem op_catL : OpR X (binaryOp .Add) (rCatL X.K) := by
  intro pins s σ H x y v u Q I rx ry h
  obtain ⟨l, b, xs, zs, rfl, rfl, hH, hB, hz, q⟩ := h
  cases rx
  cases ry
  obtain ⟨its, r, hl, _⟩ := I.list hH
  obtain ⟨its2, r2, hl2, _⟩ := I.list hB
  obtain ⟨⟨cls, dd, data, sl⟩, ho, hc, n, hd⟩ := hl.isList
  obtain ⟨⟨cls2, dd2, data2, sl2⟩, ho2, hc2, n2, hd2⟩ := hl2.isList
  simp only at hc hd hc2 hd2
  subst hc hd hc2 hd2
  have e : its.toArray ++ its2.toArray = (its ++ its2).toArray := by simp
  have e1 := r.length
  have e2 := r2.length
  refine concat_meets ⟨_, ho, rfl⟩ ⟨_, ho2, rfl⟩ noFill_list_add seq_list_add PySem.F.slot_list_add PySem.F.entry_list_add (PySem.F.args_list_add_2 _ _) (list_addW l b its.toArray its2.toArray n n2 dd dd2 sl sl2 (by rw [List.size_toArray, List.size_toArray]; omega)) ⟨ho, ho2, ?_⟩
  rw [e]
  exact ⟨.ref _, _, I.lnew (t' := s.toks) (r.append r2) (by rw [List.length_append]; omega), rfl, q _ I.fresh⟩
def gAdd (K : PySem.W.Frag) : R2 := fun x y H Q => rI0 (fun i j => .int (i + j)) x y H Q ∨ gAddS x y H Q ∨ rCatL K x y H Q ∨ rCatA K x y H Q
theorem go_add : OpR X (binaryOp .Add) (gAdd X.K) := op_add.or (go_adds.or (op_catL.or op_catA))
def gMulS : R2 := fun x y H Q => ∃ (a : Str) (n : Int), x = .str a ∧ y = .int n ∧ a.length ≤ 1000 ∧ -1000000 ≤ n ∧ n ≤ 1000 ∧ Q (.str (Txt.mul a n)) H
theorem op_mulS : OpR X (binaryOp .Mult) gMulS := by
  intro pins s σ H x y v u Q I rx ry h
  obtain ⟨a, n, rfl, rfl, hl, h1, h2, q⟩ := h
  obtain ⟨t, rfl⟩ := rx
  obtain ⟨t2, rfl⟩ := ry
  refine SB.mul ⟨?_, fun h3 _ h4 => ?_, fun h3 _ => ?_⟩ fun t' k => ⟨.str (Txt.mul a n), H, I.tok k, ⟨t', rfl⟩, q⟩
  · simp only [Bool.or_eq_false_iff, decide_eq_false_iff_not]
    omega
  · have := Int.le_ediv_of_mul_le (a := 1000) (b := 2 ^ 63 - 1) (c := n) (by omega) (by omega)
    omega
  · refine PyProof.Rows.short24 ?_
    have : a.length * n.toNat ≤ 1000 * 1000 := Nat.mul_le_mul hl (by omega)
    omega
def gMul (K : PySem.W.Frag) : R2 := fun x y H Q => rI CMulW (fun i j => .int (i * j)) x y H Q ∨ rRep x y H Q ∨ rRepT K x y H Q ∨ gMulS x y H Q
theorem go_mul : OpR X (binaryOp .Mult) (gMul X.K) := op_mulW.or (op_rep.or (op_repT.or op_mulS))
def gLtD (K : PySem.W.Frag) : R2 := fun x y H Q => ∃ d e, Rp K H d x ∧ Rp K H e y ∧ d.plain = true ∧ e.plain = true ∧ PySem.W.alike d e = true ∧ d ≠ .none ∧ min d.depth e.depth ≤ 64 ∧ Q (.bl (PySem.W.dataLt d e)) H
theorem go_ltd (hu : X.A.units + 64 < cLine) : OpR X (compareOp .Lt) (gLtD X.K) := by
  intro pins s σ H x y v u Q I rx ry h
  obtain ⟨d, e, hd, he, pd, pe, ha, hn, hm, q⟩ := h
  obtain ⟨as, r1⟩ := Rp.reads I d x v pd hd rx
  obtain ⟨bs, r2⟩ := Rp.reads I e y u pe he ry
  exact PySem.W.rcLt_alike d e _ _ _ _ _ _ r1 r2 ha hn (by omega) _ _ _ _ ⟨.bl _, H, I, rfl, q⟩
def gLt (K : PySem.W.Frag) : R2 := fun x y H Q => rI0 (fun i j => .bl (decide (i < j))) x y H Q ∨ gLtD K x y H Q
theorem go_lt (hu : X.A.units + 64 < cLine) : OpR X (compareOp .Lt) (gLt X.K) := op_lt.or (go_ltd hu)
def gLeS : R2 := fun x y H Q => ∃ i j, x = .str i ∧ y = .str j ∧ Q (.bl (!decide (j.cps.toList < i.cps.toList))) H
def gLe : R2 := fun x y H Q => rI0 (fun i j => .bl (decide (i ≤ j))) x y H Q ∨ gLeS x y H Q
def gIx (K : PySem.W.Frag) : R2 := rIx K
theorem gx_ix : IxR X (gIx X.K) := ix_seq
def gSl (K : PySem.W.Frag) : V → Option Int → Option Int → Hp → VK → Prop := fun x lo hi H Q => rSlS x lo hi H Q ∨ rSlL K x lo hi H Q ∨ rSlA K x lo hi H Q
theorem gx_sl : SlR X (gSl X.K) := sl_str.or (sl_list.or sl_tupA)
def gInA (K : PySem.W.Frag) (neg : Bool) : R2 := fun x y H Q => gInS neg x y H Q ∨ gIn K neg x y H Q
theorem go_ina (hu : X.A.units + 64 < cLine) : OpR X (compareOp .In) (gInA X.K false) := go_ins.or (go_in hu)
theorem go_nina (hu : X.A.units + 64 < cLine) : OpR X (compareOp .NotIn) (gInA X.K true) := go_nins.or (go_nin hu)
end
section
variable {K : PySem.W.Frag} {F B H : Hp} {A : List Addr} {env : Env} {cs : List Cell} {σ : L2.St} {Φ : Vl → List Cell → Prop} {Q : VK} {ta tb te : TE} {x y : Vl}
theorem wu_addI {i j : Int} (hx : x = .dat (.int i)) (hy : y = .dat (.int j)) (f : Φ (.dat (.int (i + j))) cs) : wpR K (gAdd K) x y env cs Φ := fun F B H A σ v w s r1 r2 Q q => .inl (wr_I0i (g := fun i j => i + j) hx hy f F B H A σ v w s r1 r2 Q q)
theorem wu_addS {i j : Str} (hx : x = .dat (.str i)) (hy : y = .dat (.str j)) (hl : i.length + j.length ≤ 1000000) (f : Φ (.dat (.str (i ++ j))) cs) : wpR K (gAdd K) x y env cs Φ := fun F B H A σ v w s r1 r2 Q q => .inr (.inl (wr_adds hx hy hl f F B H A σ v w s r1 r2 Q q))
theorem wu_addT {ds es : List D} (hx : x = .dat (.tuple ds)) (hy : y = .dat (.tuple es)) (hl : ds.length + es.length ≤ 1000000) (f : Φ (.dat (.tuple (ds ++ es))) cs) : wpR K (gAdd K) x y env cs Φ := fun F B H A σ v w s r1 r2 Q q => by
  subst hx hy
  obtain ⟨a, vs, rfl, hs, hr⟩ := r1
  obtain ⟨b, ws, rfl, ht, hr2⟩ := r2
  refine .inr (.inr (.inr ⟨a, b, vs, ws, rfl, rfl, sqT_mono s.eb hs, sqT_mono s.eb ht, by rw [hr.length, hr2.length]; exact Nat.le_trans hl (by decide), fun e => ?_, fun _ e => ?_, fun _ _ p hp => q.tup s hp (hr.append hr2) f⟩))
  · have : ds = [] := by
      have := hr.length
      rw [e] at this
      exact List.eq_nil_of_length_eq_zero this.symm
    subst this
    exact q.now s (x := .dat (.tuple es)) ⟨b, ws, rfl, ht, hr2⟩ f
  · have : es = [] := by
      have := hr2.length
      rw [e] at this
      exact List.eq_nil_of_length_eq_zero this.symm
    subst this
    rw [List.append_nil] at f
    exact q.now s (x := .dat (.tuple ds)) ⟨a, vs, rfl, hs, hr⟩ f
theorem wu_mulI {i j : Int} (hx : x = .dat (.int i)) (hy : y = .dat (.int j)) (hc : CMulW i j) (f : Φ (.dat (.int (i * j))) cs) : wpR K (gMul K) x y env cs Φ := fun F B H A σ v w s r1 r2 Q q => .inl (wr_Ii (g := fun i j => i * j) hx hy hc f F B H A σ v w s r1 r2 Q q)
theorem wu_ltI {i j : Int} (hx : x = .dat (.int i)) (hy : y = .dat (.int j)) (f : Φ (.dat (.bool (decide (i < j)))) cs) : wpR K (gLt K) x y env cs Φ := fun F B H A σ v w s r1 r2 Q q => .inl (wr_I0b (g := fun i j => decide (i < j)) hx hy f F B H A σ v w s r1 r2 Q q)
theorem wu_ltD {d e : D} (hx : DatOf cs x d) (hy : DatOf cs y e) (pd : d.plain = true) (pe : e.plain = true) (ha : PySem.W.alike d e = true) (hn : d ≠ .none) (hm : min d.depth e.depth ≤ 64) (f : Φ (.dat (.bool (PySem.W.dataLt d e))) cs) : wpR K (gLt K) x y env cs Φ := fun F B H A σ v w s r1 r2 Q q =>
  .inr ⟨d, e, s.asD r1 hx, s.asD r2 hy, pd, pe, ha, hn, hm, q.now s (x := .dat (.bool (PySem.W.dataLt d e))) rfl f⟩
theorem wu_ltS {i j : Str} (hx : x = .dat (.str i)) (hy : y = .dat (.str j)) (f : Φ (.dat (.bool (decide (i.cps.toList < j.cps.toList)))) cs) : wpR K (gLt K) x y env cs Φ := by
  subst hx hy
  refine wu_ltD .dat .dat rfl rfl (by simp [PySem.W.alike]) (by simp) (by simp [PyData.depth]) ?_
  rw [PySem.W.dataLt_str]
  exact f
theorem wu_leI {i j : Int} (hx : x = .dat (.int i)) (hy : y = .dat (.int j)) (f : Φ (.dat (.bool (decide (i ≤ j)))) cs) : wpR K gLe x y env cs Φ := fun F B H A σ v w s r1 r2 Q q => .inl (wr_I0b (g := fun i j => decide (i ≤ j)) hx hy f F B H A σ v w s r1 r2 Q q)
theorem wu_leS {i j : Str} (hx : x = .dat (.str i)) (hy : y = .dat (.str j)) (f : Φ (.dat (.bool (!decide (j.cps.toList < i.cps.toList)))) cs) : wpR K gLe x y env cs Φ := fun F B H A σ v w s r1 r2 Q q => by
  subst hx hy
  exact .inr ⟨i, j, r1, r2, q.now s (x := .dat (.bool (!decide (j.cps.toList < i.cps.toList)))) rfl f⟩
theorem wu_ixT {ds : List D} {i : Int} {d : D} (hx : x = .dat (.tuple ds)) (hy : y = .dat (.int i)) (h : atI ds i = some d) (f : Φ (.dat d) cs) : wpR K (gIx K) x y env cs Φ := fun F B H A σ v w s r1 r2 Q q => .inr (.inl (wr_ixT hx hy h f F B H A σ v w s r1 r2 Q q))
theorem wu_ixL {ds : List D} {i : Int} {d : D} (hx : x = .dat (.list ds)) (hy : y = .dat (.int i)) (h : atI ds i = some d) (f : Φ (.dat d) cs) : wpR K (gIx K) x y env cs Φ := fun F B H A σ v w s r1 r2 Q q => .inl (wr_ixL hx hy h f F B H A σ v w s r1 r2 Q q)
theorem wu_ixC {xs : List Vl} {k : Nat} {i : Int} {z : Vl} (hx : x = .cel k) (hy : y = .dat (.int i)) (hc : cs[k]? = some (.lst xs)) (h : atI xs i = some z) (f : Φ z cs) : wpR K (gIx K) x y env cs Φ := fun F B H A σ v w s r1 r2 Q q => .inl (wr_ixC hx hy hc h f F B H A σ v w s r1 r2 Q q)
theorem wu_ixS {z : Str} {i : Int} {c : Nat} (hx : x = .dat (.str z)) (hy : y = .dat (.int i)) (hl : z.length ≤ 1000000) (h : atI z.cps.toList i = some c) (f : Φ (.dat (.str ⟨#[c]⟩)) cs) : wpR K (gIx K) x y env cs Φ := fun F B H A σ v w s r1 r2 Q q => .inr (.inr (wr_ixS hx hy hl h f F B H A σ v w s r1 r2 Q q))
def cutD {α : Type} (xs : List α) (lo hi : Option Int) : List α := (xs.drop (HT.sIx xs.length 0 lo)).take (HT.sIx xs.length xs.length hi - HT.sIx xs.length 0 lo)
theorem RpL.drop {ds : List D} {vs : List V} (h : RpL K B ds vs) : ∀ n, RpL K B (ds.drop n) (vs.drop n) := fun n => by
  induction n generalizing ds vs with
  | zero => exact h
  | succ n ih =>
    cases ds with
    | nil =>
      have e : vs = [] := h
      rw [e]
      rfl
    | cons d ds =>
      obtain ⟨v, r, rfl, h1, h2⟩ := h
      exact ih h2
theorem RpL.take {ds : List D} {vs : List V} (h : RpL K B ds vs) : ∀ n, RpL K B (ds.take n) (vs.take n) := fun n => by
  induction n generalizing ds vs with
  | zero => rfl
  | succ n ih =>
    cases ds with
    | nil =>
      have e : vs = [] := h
      rw [e]
      rfl
    | cons d ds =>
      obtain ⟨v, r, rfl, h1, h2⟩ := h
      exact ⟨v, _, rfl, h1, ih h2⟩
theorem RpL.cut {ds : List D} {vs : List V} (h : RpL K B ds vs) (lo hi : Option Int) : RpL K B (cutD ds lo hi) (cutV vs lo hi) := by
  unfold cutD cutV
  rw [h.length]
  exact (h.drop _).take _
theorem wu_slS {z : Str} {lo hi : Option Int} (hx : x = .dat (.str z)) (hl : z.length ≤ 1000000) (f : Φ (.dat (.str (cutS z lo hi))) cs) : wpX K (gSl K) x lo hi env cs Φ := fun F B H A σ v s r1 Q q => .inl (wx_str hx hl f F B H A σ v s r1 Q q)
theorem wu_slT {ds : List D} {lo hi : Option Int} (hx : x = .dat (.tuple ds)) (f : Φ (.dat (.tuple (cutD ds lo hi))) cs) : wpX K (gSl K) x lo hi env cs Φ := fun F B H A σ v s r1 Q q => by
  subst hx
  obtain ⟨a, vs, rfl, hs, hr⟩ := r1
  refine .inr (.inr ⟨a, vs, rfl, sqT_mono s.eb hs, fun e => ?_, fun _ p hp => q.tup s hp (hr.cut lo hi) f⟩)
  have e2 : cutD ds lo hi = ds := by
    unfold cutD
    rw [← hr.length, e.1, e.2, List.drop_zero, Nat.sub_zero, hr.length]
    exact List.take_length
  rw [e2] at f
  exact q.now s (x := .dat (.tuple ds)) ⟨a, vs, rfl, hs, hr⟩ f
theorem wu_slL {ds : List D} {lo hi : Option Int} (hx : DatOf cs x (.list ds)) (f : Φ (.cel cs.length) (cs ++ [.lst ((cutD ds lo hi).map .dat)])) : wpX K (gSl K) x lo hi env cs Φ := fun F B H A σ v s r1 Q q => by
  rcases hx with rfl | ⟨k, es, rfl, hc, e⟩
  · obtain ⟨a, vs, rfl, hs, hr⟩ := r1
    exact .inr (.inl ⟨a, vs, rfl, sqL_mono s.eb hs, fun p hp => q.lst s hp (RpVs.of_dats (hr.cut lo hi)) f⟩)
  · cases e
    obtain ⟨a, ha, rfl⟩ := r1
    obtain ⟨vs, hs, hr⟩ := s.ch k a _ ha hc
    exact .inr (.inl ⟨a, vs, rfl, SqL.of hs, fun p hp => q.lst s hp (RpVs.of_dats ((RpVs.dats hr).cut lo hi)) f⟩)
theorem wu_inS {c : Nat} {z : Str} (hx : x = .dat (.str ⟨#[c]⟩)) (hy : y = .dat (.str z)) (f : Φ (.dat (.bool (decide (c ∈ z.cps.toList)))) cs) : wpR K (gInA K false) x y env cs Φ := fun F B H A σ v w s r1 r2 Q q => .inl (wr_ins hx hy f F B H A σ v w s r1 r2 Q q)
theorem wu_ninS {c : Nat} {z : Str} (hx : x = .dat (.str ⟨#[c]⟩)) (hy : y = .dat (.str z)) (f : Φ (.dat (.bool (!decide (c ∈ z.cps.toList)))) cs) : wpR K (gInA K true) x y env cs Φ := fun F B H A σ v w s r1 r2 Q q => .inl (wr_nins hx hy f F B H A σ v w s r1 r2 Q q)
theorem wu_in {d : D} {es : List D} (hx : DatOf cs x d) (hy : DatOf cs y (.list es) ∨ DatOf cs y (.tuple es)) (pd : d.plain = true) (pe : PyData.plainAll es = true) (hm : min (PyData.depthAll es) d.depth ≤ 60) (f : Φ (.dat (.bool (es.any fun z => PyData.eqv z d))) cs) : wpR K (gInA K false) x y env cs Φ := fun F B H A σ v w s r1 r2 Q q => .inr (wr_in hx hy pd pe hm f F B H A σ v w s r1 r2 Q q)
theorem wu_nin {d : D} {es : List D} (hx : DatOf cs x d) (hy : DatOf cs y (.list es) ∨ DatOf cs y (.tuple es)) (pd : d.plain = true) (pe : PyData.plainAll es = true) (hm : min (PyData.depthAll es) d.depth ≤ 60) (f : Φ (.dat (.bool (!es.any fun z => PyData.eqv z d))) cs) : wpR K (gInA K true) x y env cs Φ := fun F B H A σ v w s r1 r2 Q q => .inr (wr_nin hx hy pd pe hm f F B H A σ v w s r1 r2 Q q)
/-! ### exact values, nothing changed -/
theorem we_x {d : D} (h : wpE K te env cs fun x c => x = .dat d ∧ c = cs) (f : Φ (.dat d) cs) : wpE K te env cs Φ := h.mono fun x c ⟨e1, e2⟩ => by
  rw [e1, e2]
  exact f
theorem we_andX {a b : Bool} (ha : wpE K ta env cs fun x c => x = .dat (.bool a) ∧ c = cs) (hb : a = true → wpE K tb env cs fun x c => x = .dat (.bool b) ∧ c = cs) (f : Φ (.dat (.bool (a && b))) cs) : wpE K (tAndV ta tb) env cs Φ :=
  we_and (ha.mono fun x c ⟨e1, e2⟩ => ⟨a, e1, fun h => by
    rw [e2]
    refine we_x (hb h) ?_
    rw [h] at f
    exact f, fun h => by
    rw [e2]
    rw [h] at f
    exact f⟩)
theorem we_orX {a b : Bool} (ha : wpE K ta env cs fun x c => x = .dat (.bool a) ∧ c = cs) (hb : a = false → wpE K tb env cs fun x c => x = .dat (.bool b) ∧ c = cs) (f : Φ (.dat (.bool (a || b))) cs) : wpE K (tOrV ta tb) env cs Φ :=
  we_or (ha.mono fun x c ⟨e1, e2⟩ => ⟨a, e1, fun h => by
    rw [e2]
    refine we_x (hb h) ?_
    rw [h] at f
    exact f, fun h => by
    rw [e2]
    rw [h] at f
    exact f⟩)
theorem wt_x {tt : TT} {b : Bool} {Φ : Bool → List Cell → Prop} (h : wpT K tt env cs fun b' c => b' = b ∧ c = cs) (f : Φ b cs) : wpT K tt env cs Φ := fun F B H A σ s Q q => h F B H A σ s Q fun b' c B' H' A' ⟨e1, e2⟩ => q b' c B' H' A' (by rw [e1, e2]; exact f)
theorem wt_andX {t u : TT} {a b : Bool} {Φ : Bool → List Cell → Prop} (ha : wpT K t env cs fun x c => x = a ∧ c = cs) (hb : a = true → wpT K u env cs fun x c => x = b ∧ c = cs) (f : Φ (a && b) cs) : wpT K (tAnd t u) env cs Φ :=
  wt_and (wt_x ha ⟨fun h => by
    refine wt_x (hb h) ?_
    rw [h] at f
    exact f, fun h => by
    rw [h] at f
    exact f⟩)
theorem wt_orX {t u : TT} {a b : Bool} {Φ : Bool → List Cell → Prop} (ha : wpT K t env cs fun x c => x = a ∧ c = cs) (hb : a = false → wpT K u env cs fun x c => x = b ∧ c = cs) (f : Φ (a || b) cs) : wpT K (tOr t u) env cs Φ :=
  wt_or (wt_x ha ⟨fun h => by
    refine wt_x (hb h) ?_
    rw [h] at f
    exact f, fun h => by
    rw [h] at f
    exact f⟩)
end
end G
namespace G
open PySem PySem.Spec PyProof.Rows L2 TL
section
variable {X : Cx} {K : PySem.W.Frag}
theorem ko_eq (hK : X.K = K) (hu : X.A.units + 64 < cLine) : OpR X (compareOp .Eq) (gEq K) := by
  subst hK
  exact go_eq hu
theorem ko_lt (hK : X.K = K) (hu : X.A.units + 64 < cLine) : OpR X (compareOp .Lt) (gLt K) := by
  subst hK
  exact go_lt hu
theorem ko_in (hK : X.K = K) (hu : X.A.units + 64 < cLine) : OpR X (compareOp .In) (gInA K false) := by
  subst hK
  exact go_ina hu
theorem ko_nin (hK : X.K = K) (hu : X.A.units + 64 < cLine) : OpR X (compareOp .NotIn) (gInA K true) := by
  subst hK
  exact go_nina hu
theorem ko_add (hK : X.K = K) : OpR X (binaryOp .Add) (gAdd K) := by
  subst hK
  exact go_add
theorem ko_mul (hK : X.K = K) : OpR X (binaryOp .Mult) (gMul K) := by
  subst hK
  exact go_mul
theorem kx_ix (hK : X.K = K) : IxR X (gIx K) := by
  subst hK
  exact gx_ix
theorem kx_sl (hK : X.K = K) : SlR X (gSl K) := by
  subst hK
  exact gx_sl
theorem kc_len (hK : X.K = K) : CallR X (.builtin "len") (gLen K) := by
  subst hK
  exact gc_len
theorem kc_all (hK : X.K = K) (hc : X.calm = true) : CallR X (.builtin "all") (rAll K) := by
  subst hK
  exact cr_all hc
theorem kp_join {o e : Expr} {to te : TE} {apos pos : Pos} (hK : X.K = K) (ho : PE X o to) (he : PE X e te) (hs : starEach [e] X.env = [(false, eval e X.env)] := by rfl) (hbase : attributeBase o "join" X.env (eval o X.env) = eval o X.env := by rfl) (hline : (apos.endLine == pos.line) = true := by rfl) :
    PE X (.Call (.Attribute o "join" apos) [e] [] pos) (tM1 (gJoin K) to te) := by
  subst hK
  exact gp_join ho he hs hbase hline
theorem ki_list {tg l : Expr} {tl : TE} (hK : X.K = K) (hl : PE X l tl) : PI X tg l (iList K tl) := by
  subst hK
  exact pi_list hl
theorem ki_tup {tg l : Expr} {tl : TE} (hK : X.K = K) (hl : PE X l tl) : PI X tg l (iTup K tl) := by
  subst hK
  exact pi_tup hl
theorem kg_tup {es : List Expr} {k : Nat} {t : TGs} {n : Nat} {pos : Pos} (hK : X.K = K) (hc : X.calm = true) (h : PGs X es t) (hn : (assignEach es X.env).length = n := by rfl) (hst : (assignEach es X.env).findIdx? (·.1) = none := by rfl) : PG X (.Tuple es k pos) (gTup K n t) := by
  subst hK
  exact pg_tup hc h hn hst
theorem kp_append {o e : Expr} {es : List Expr} {to : TE} {t : TA} {apos cpos : Pos} (hK : X.K = K) (ho : PE X o to) (ha : PA X (e :: es) t)
    (hbase : attributeBase o "append" X.env (eval o X.env) = eval o X.env := by rfl)
    (hfew : ((backTo cpos (starEach (e :: es) X.env)).all (fun x => !x.1) && (backToKw cpos (keywordEach [] X.env)).all (fun x => x.1.isSome)
      && decide ((e :: es).length + ([] : List Keyword).length + (if ([] : List Keyword).isEmpty then 0 else 1) < 30)) = true := by rfl)
    (hline : (apos.endLine == cpos.line) = true := by rfl) (hs : starEach (e :: es) X.env = (false, eval e X.env) :: starEach es X.env := by rfl) (hplain : (backTo cpos (starEach es X.env)).any (·.1) = false := by rfl) :
    PE X (.Call (.Attribute o "append" apos) (e :: es) [] cpos) (tBM K "list" rAppend to t) := by
  subst hK
  exact pe_bm PySem.F.plainAttrs_list PySem.F.slot_list_append PySem.F.type_list_append mt_append ho ha hbase hfew hline hs hplain
end
def datsOf : List Vl → Option (List D)
  | [] => some []
  | .dat d :: r => (datsOf r).map (d :: ·)
  | .cel _ :: _ => none
theorem datsOf_eq : ∀ {xs : List Vl} {ds : List D}, datsOf xs = some ds → xs = ds.map .dat
  | [], _, h => by
    cases h
    rfl
  | .dat d :: r, _, h => by
    cases e : datsOf r with
    | none =>
      have h' : (datsOf r).map (d :: ·) = _ := h
      rw [e] at h'
      cases h'
    | some es =>
      have h' : (datsOf r).map (d :: ·) = _ := h
      rw [e] at h'
      cases h'
      rw [datsOf_eq e]
      rfl
  | .cel _ :: _, _, h => by cases h
section
variable {K : PySem.W.Frag} {env : Env} {cs : List Cell} {Φ : Vl → List Cell → Prop} {ta tb te : TE} {x y : Vl}
theorem we_tupX {ta : TA} (h : wpA K ta env cs fun xs c1 => ∃ ds : List D, datsOf xs = some ds ∧ ds.length ≤ 100000 ∧ Φ (.dat (.tuple ds)) c1) : wpE K (tTup ta) env cs Φ :=
  we_tup fun F B H A σ s Q q => h F B H A σ s Q fun xs cs' vs B' H' A' ⟨ds, e, hl, f⟩ => q xs cs' vs B' H' A' ⟨ds, datsOf_eq e, hl, f⟩
/-- a call that is handed no cell and gives data -/
theorem we_call0 {a : AS} {ta : TA} {E : XK} (h : wpA K ta env cs fun xs c1 => ∃ Φ', a xs [] Φ' ∧ (∀ x ∈ xs, VlB 0 x) ∧ ∀ x c', Φ' x c' → ∃ d, x = .dat d ∧ c' = [] ∧ Φ (.dat d) c1) : wpE K (tCall (conc K a) [] E ta) env cs Φ :=
  we_call fun F B H A σ s Q q => h F B H A σ s Q fun xs cs' vs B' H' A' ⟨Φ', ha, hb, hq⟩ => q xs cs' vs B' H' A' (by
    refine ⟨[], xs, [], Φ', ⟨List.nodup_nil, ?_, hb, CsB.nil, rfl, fun _ _ h => by simp at h⟩, ha, fun x c' f => .inl ?_⟩
    · have key : ∀ xs : List Vl, (∀ x ∈ xs, VlB 0 x) → xs = xs.map (mpV []) := fun xs => by
        intro hb
        induction xs with
        | nil => rfl
        | cons x r ih =>
          have h1 := hb x (List.mem_cons_self ..)
          cases x with
          | cel k => exact absurd h1 (Nat.not_lt_zero k)
          | dat d =>
            rw [List.map_cons, ← ih (fun x hx => hb x (List.mem_cons_of_mem _ hx))]
            rfl
      exact key xs hb
    · obtain ⟨d, e1, e2, f2⟩ := hq x c' f
      subst e2
      refine ⟨d, e1, rfl, ?_⟩
      cases cs' <;> exact f2)
/-- .. and gives a new cell of data -/
theorem we_call0c {a : AS} {ta : TA} {E : XK} (h : wpA K ta env cs fun xs c1 => ∃ Φ', a xs [] Φ' ∧ (∀ x ∈ xs, VlB 0 x) ∧ ∀ x c', Φ' x c' → ∃ c0, x = .cel 0 ∧ c' = [c0] ∧ CellB 0 c0 ∧ Φ (.cel c1.length) (c1 ++ [c0])) : wpE K (tCall (conc K a) [] E ta) env cs Φ :=
  we_call fun F B H A σ s Q q => h F B H A σ s Q fun xs cs' vs B' H' A' ⟨Φ', ha, hb, hq⟩ => q xs cs' vs B' H' A' (by
    have key : ∀ xs : List Vl, (∀ x ∈ xs, VlB 0 x) → xs = xs.map (mpV []) := fun xs => by
      intro hb
      induction xs with
      | nil => rfl
      | cons x r ih =>
        have h1 := hb x (List.mem_cons_self ..)
        cases x with
        | cel k => exact absurd h1 (Nat.not_lt_zero k)
        | dat d =>
          rw [List.map_cons, ← ih (fun x hx => hb x (List.mem_cons_of_mem _ hx))]
          rfl
    refine ⟨[], xs, [], Φ', ⟨List.nodup_nil, key xs hb, hb, CsB.nil, rfl, fun _ _ h => by simp at h⟩, ha, fun x c' f => .inr ?_⟩
    obtain ⟨c0, e1, e2, hb0, f2⟩ := hq x c' f
    subst e2
    refine ⟨CsB.nil, Nat.zero_le _, .inr ⟨c0, e1, rfl, hb0, ?_⟩⟩
    have e : mpC [] c0 = c0 := by
      cases c0 with
      | lst xs =>
        show Cell.lst (xs.map (mpV [])) = Cell.lst xs
        rw [← key xs hb0]
      | dct kvs =>
        show Cell.dct (kvs.map fun p => (p.1, mpV [] p.2)) = Cell.dct kvs
        congr 1
        conv => rhs; rw [← List.map_id kvs]
        exact List.map_congr_left fun p hp => by
          have h1 := hb0 p hp
          obtain ⟨p1, p2⟩ := p
          cases p2 with
          | cel k => exact absurd h1 (Nat.not_lt_zero k)
          | dat d => rfl
      | obj C kvs =>
        show Cell.obj C (kvs.map fun p => (p.1, mpV [] p.2)) = Cell.obj C kvs
        congr 1
        conv => rhs; rw [← List.map_id kvs]
        exact List.map_congr_left fun p hp => by
          have h1 := hb0 p hp
          obtain ⟨p1, p2⟩ := p
          cases p2 with
          | cel k => exact absurd h1 (Nat.not_lt_zero k)
          | dat d => rfl
      | dcx o kvs =>
        show Cell.dcx o (kvs.map fun p => (p.1, mpV [] p.2)) = Cell.dcx o kvs
        congr 1
        conv => rhs; rw [← List.map_id kvs]
        exact List.map_congr_left fun p hp => by
          have h1 := hb0 p hp
          obtain ⟨p1, p2⟩ := p
          cases p2 with
          | cel k => exact absurd h1 (Nat.not_lt_zero k)
          | dat d => rfl
    rw [e]
    cases cs' <;> exact f2)
theorem mpV_flat {ks : List Nat} {x : Vl} (h : VlB 0 x) : mpV ks x = x := by
  cases x with
  | dat d => rfl
  | cel k => exact absurd h (Nat.not_lt_zero k)
theorem mpC_flat {ks : List Nat} {c : Cell} (h : CellB 0 c) : mpC ks c = c := by
  cases c with
  | lst xs =>
    show Cell.lst (xs.map (mpV ks)) = Cell.lst xs
    congr 1
    conv => rhs; rw [← List.map_id xs]
    exact List.map_congr_left fun x hx => mpV_flat (h x hx)
  | dct xs =>
    show Cell.dct (xs.map fun p => (p.1, mpV ks p.2)) = Cell.dct xs
    congr 1
    conv => rhs; rw [← List.map_id xs]
    exact List.map_congr_left fun x hx => by rw [mpV_flat (h x hx)]; rfl
  | obj C xs =>
    show Cell.obj C (xs.map fun p => (p.1, mpV ks p.2)) = Cell.obj C xs
    congr 1
    conv => rhs; rw [← List.map_id xs]
    exact List.map_congr_left fun x hx => by rw [mpV_flat (h x hx)]; rfl
  | dcx o xs =>
    show Cell.dcx o (xs.map fun p => (p.1, mpV ks p.2)) = Cell.dcx o xs
    congr 1
    conv => rhs; rw [← List.map_id xs]
    exact List.map_congr_left fun x hx => by rw [mpV_flat (h x hx)]; rfl
theorem VlB.up {m n : Nat} {x : Vl} (h : VlB m x) (l : m ≤ n) : VlB n x := by
  cases x with
  | dat d => trivial
  | cel k => exact Nat.lt_of_lt_of_le h l
theorem CellB.up {m n : Nat} {c : Cell} (h : CellB m c) (l : m ≤ n) : CellB n c := by
  cases c with
  | lst xs => exact fun x hx => (h x hx).up l
  | dct xs => exact fun x hx => (h x hx).up l
  | obj C xs => exact fun x hx => (h x hx).up l
  | dcx o xs => exact fun x hx => (h x hx).up l
/-- a call that is handed one cell, its first argument, which holds data alone; it gives data or a new cell of data -/
theorem we_call1 {a : AS} {ta : TA} {E : XK} (h : wpA K ta env cs fun xs c1 => ∃ (k : Nat) (ds : List D) (c0 : Cell) (Φ' : Vl → List Cell → Prop), xs = .cel k :: ds.map .dat ∧ c1[k]? = some c0 ∧ CellB 0 c0 ∧ a (.cel 0 :: ds.map .dat) [c0] Φ' ∧
      ∀ x c', Φ' x c' → ∃ c0', CellB 0 c0' ∧ ((∃ d, x = .dat d ∧ c' = [c0'] ∧ Φ (.dat d) (c1.set k c0')) ∨ ∃ c2, x = .cel 1 ∧ c' = [c0', c2] ∧ CellB 0 c2 ∧ Φ (.cel c1.length) (c1.set k c0' ++ [c2]))) : wpE K (tCall (conc K a) [] E ta) env cs Φ :=
  we_call fun F B H A σ s Q q => h F B H A σ s Q fun xs cs' vs B' H' A' ⟨k, ds, c0, Φ', e, hc, hb, ha, hq⟩ => q xs cs' vs B' H' A' (by
    refine ⟨[k], .cel 0 :: ds.map .dat, [c0], Φ', ⟨by simp, ?_, ?_, CsB.cons (hb.up (Nat.zero_le _)) CsB.nil, rfl, ?_⟩, ha, fun x c' f => ?_⟩
    · rw [e, List.map_cons, List.map_map]
      rfl
    · intro x hx
      rcases List.mem_cons.mp hx with e | hx
      · rw [e]
        exact Nat.zero_lt_one
      · obtain ⟨d, _, rfl⟩ := List.mem_map.mp hx
        trivial
    · intro j i hj
      cases j with
      | zero =>
        have e : k = i := Option.some.inj (by simpa using hj)
        subst e
        exact ⟨c0, rfl, by rw [mpC_flat hb]; exact hc⟩
      | succ j => simp at hj
    · obtain ⟨c0', hb', ⟨d, e1, e2, g⟩ | ⟨c2, e1, e2, hb2, g⟩⟩ := hq x c' f
      · subst e2
        refine .inl ⟨d, e1, rfl, ?_⟩
        show Φ (.dat d) (putAll (cs'.set k (mpC [k] c0')) [] [])
        rw [mpC_flat hb']
        exact g
      · subst e2
        refine .inr ⟨CsB.cons (hb'.up (Nat.zero_le _)) CsB.nil, by show 1 ≤ 2; decide, .inr ⟨c2, e1, rfl, hb2.up (Nat.zero_le _), ?_⟩⟩
        show Φ (.cel cs'.length) (putAll (cs'.set k (mpC [k] c0')) [] [] ++ [mpC [k] c2])
        rw [mpC_flat hb', mpC_flat hb2]
        exact g)
theorem vlB_nil {m : Nat} : ∀ x ∈ ([] : List Vl), VlB m x := fun _ h => by cases h
theorem vlB_dat {m : Nat} {d : D} {xs : List Vl} (h : ∀ x ∈ xs, VlB m x) : ∀ x ∈ (Vl.dat d :: xs), VlB m x := fun x hx => by
  rcases List.mem_cons.mp hx with e | hx
  · rw [e]
    trivial
  · exact h x hx
end
section
variable {K : PySem.W.Frag} {env : Env} {cs : List Cell} {Φ : Vl → List Cell → Prop} {ta tb tc te : TE} {x y : Vl} {ti : TI} {g : TG} {tt : TT} {vs : List Nat}
abbrev Xc (d : D) (cs : List Cell) : Vl → List Cell → Prop := fun x c => x = .dat d ∧ c = cs
theorem we_gc0 (h : wpE K te env cs fun x c => ∃ d g, x = .dat d ∧ c = cs ++ g ∧ Φ (.dat d) cs) : wpE K te env cs Φ := fun F B H A σ s Q q =>
  h F B H A σ s Q fun x c v B' H' A' ⟨d, g, e1, e2, f⟩ e p s' r => by
    subst e1 e2
    have ht : (cs ++ g).take cs.length = cs := by simp
    refine q (.dat d) cs v B' H' (A'.take cs.length) f e (p.take (Nat.le_of_eq s.la)) ?_ r
    have s2 := s'.take (m := cs.length) (env' := env) (σ' := σ) (by rw [ht]; exact s.csb) (RpOs.mono e (p.take (Nat.le_of_eq s.la)) s.sl)
    rw [ht] at s2
    exact s2
theorem we_chainX {r r' : R2} {a b : Bool} {d1 d2 d3 : D} (ha : wpE K ta env cs (Xc d1 cs)) (hb : wpE K tb env cs (Xc d2 cs)) (hr : wpR K r (.dat d1) (.dat d2) env cs (Xc (.bool a) cs)) (hc : a = true → wpE K tc env cs (Xc d3 cs))
    (hr' : a = true → wpR K r' (.dat d2) (.dat d3) env cs (Xc (.bool b) cs)) (f : Φ (.dat (.bool (a && b))) cs) : wpE K (tChain r r' ta tb tc) env cs Φ :=
  we_chain (we_x ha (we_x hb (fun F B H A σ v w s r1 r2 Q q => hr F B H A σ v w s r1 r2 Q fun x c u B' H' A' ⟨e1, e2⟩ => q x c u B' H' A' (by
    subst e1 e2
    refine ⟨a, rfl, fun h => ?_, fun h => ?_⟩
    · refine we_x (hc h) fun F B H A σ v w s r1 r2 Q q => hr' h F B H A σ v w s r1 r2 Q fun x c u B' H' A' ⟨e1, e2⟩ => q x c u B' H' A' ?_
      subst e1 e2
      rw [h] at f
      exact f
    · rw [h] at f
      exact f))))
/-- a comprehension that changes nothing, over data told by other things -/
theorem we_lcA {α : Type} (go : GO g vs) (fd : α → D) (p : α → Bool) (val : α → D) (h : wpI K ti env cs fun ds keep c => ds.length ≤ 10000000 ∧ keep c ∧ ∃ xs : List α, ds = xs.map fd ∧
      (∀ a, a ∈ xs → wpG K g (.dat (fd a)) (wipeE env vs) c fun e c2 => wpT K tt e c2 fun b c3 => b = p a ∧ c3 = c ∧ (p a = true → wpE K te e c fun y c4 => y = .dat (val a) ∧ c4 = c)) ∧
      Φ (.cel c.length) (c ++ [.lst (((xs.filter p).map val).map .dat)])) : wpE K (tLc ti g tt te vs) env cs Φ := we_lc go (fun F B H A σ s R k =>
  h F B H A σ s R fun ds keep c J B' H' A' f e pp s' aw => k ds keep c J B' H' A' (by
    obtain ⟨hn, hk, xs, rfl, ht, hf⟩ := f
    refine ⟨hn, fun i c' acc => c' = c ∧ acc = ((xs.take i).filter p).map val, ⟨rfl, rfl⟩, ?_, ?_, ?_⟩
    · rintro i c' acc _ ⟨rfl, _⟩
      exact ⟨hk, rfl⟩
    · rintro i d c' acc hd ⟨rfl, rfl⟩
      rw [List.getElem?_map] at hd
      obtain ⟨a, ha, rfl⟩ := Option.map_eq_some_iff.mp hd
      have hm := List.mem_of_getElem? ha
      have ts : xs.take (i + 1) = xs.take i ++ [a] := by rw [List.take_add_one, ha]; rfl
      refine fun F2 B2 H2 A2 σ2 v s2 r2 N q2 => ht a hm F2 B2 H2 A2 σ2 v s2 r2 N fun env3 cs3 σ3 B3 H3 A3 f3 => q2 env3 cs3 σ3 B3 H3 A3 ?_
      refine fun F4 B4 H4 A4 σ4 s4 Q4 q4 => f3 F4 B4 H4 A4 σ4 s4 Q4 fun b c5 B5 H5 A5 ⟨e1, e2, e3⟩ => q4 b c5 B5 H5 A5 ?_
      subst e1 e2
      refine ⟨fun hb => ?_, fun hb => .inl ⟨rfl, rfl, by rw [ts, List.filter_append, List.map_append]; simp [hb]⟩⟩
      refine fun F6 B6 H6 A6 σ6 s6 Q6 q6 => e3 hb F6 B6 H6 A6 σ6 s6 Q6 fun y c7 v7 B7 H7 A7 ⟨g1, g2⟩ => q6 y c7 v7 B7 H7 A7 (.inl ⟨val a, g1, by rw [g2], g2, ?_⟩)
      rw [ts, List.filter_append, List.map_append]
      simp [hb]
    · rintro c' acc ⟨rfl, rfl⟩
      rw [List.length_map, List.take_length]
      exact hf) e pp s' aw)
theorem wpI.mono {Ψ Ξ : List D → (List Cell → Prop) → List Cell → Prop} (h : wpI K ti env cs Ψ) (k : ∀ ds kp c, Ψ ds kp c → Ξ ds kp c) : wpI K ti env cs Ξ := fun F B H A σ s R q => h F B H A σ s R fun ds kp c J B' H' A' f => q ds kp c J B' H' A' (k _ _ _ f)
end
/-! ### texts -/
theorem tl_cut (z : Str) (lo hi : Option Int) : tl (cutS z lo hi) = cutD (tl z) lo hi := by
  unfold cutS cutD
  rw [tl_mk, ← len_tl]
theorem cutD_pre {α : Type} (xs : List α) {i : Int} (h : 0 ≤ i) : cutD xs none (some i) = xs.take i.toNat := by
  obtain ⟨k, rfl⟩ := Int.eq_ofNat_of_zero_le h
  unfold cutD
  rw [HT.sIx_none, HT.sIx_nat, List.drop_zero, Nat.sub_zero, Int.toNat_natCast, List.take_eq_take_iff]
  omega
theorem cutD_suf {α : Type} (xs : List α) {i : Int} (h : 0 ≤ i) : cutD xs (some i) none = xs.drop i.toNat := by
  obtain ⟨k, rfl⟩ := Int.eq_ofNat_of_zero_le h
  unfold cutD
  rw [HT.sIx_none, HT.sIx_nat, Int.toNat_natCast]
  by_cases hk : k ≤ xs.length
  · rw [Nat.min_eq_left hk]
    exact List.take_of_length_le (by rw [List.length_drop]; exact Nat.le_refl _)
  · rw [Nat.min_eq_right (by omega), Nat.sub_self, List.take_zero, List.drop_eq_nil_of_le (by omega)]
theorem len_cutp (z : Str) {i : Int} (h : 0 ≤ i) : (cutS z none (some i)).length = min i.toNat z.length := by
  rw [len_tl, tl_cut, cutD_pre _ h, List.length_take, ← len_tl]
theorem len_cuts (z : Str) {i : Int} (h : 0 ≤ i) : (cutS z (some i) none).length = z.length - i.toNat := by
  rw [len_tl, tl_cut, cutD_suf _ h, List.length_drop, ← len_tl]
theorem len_adds (x y : Str) : (x ++ y).length = x.length + y.length := by
  rw [len_tl, tl_append, List.length_append, ← len_tl, ← len_tl]
theorem joinL_nil : ∀ ps : List (List Nat), joinL [] ps = ps.flatten
  | [] => rfl
  | [p] => by simp [joinL]
  | p :: q :: r => by
    rw [joinL, joinL_nil (q :: r)]
    simp
def sgn (c : Nat) : Str := ⟨#[c]⟩
theorem tl_join0 {e : Str} (he : tl e = []) (cs : List Nat) : tl (Txt.join e (cs.map sgn)) = cs := by
  rw [join_eq, tl_join, he, joinL_nil, List.map_map]
  induction cs with
  | nil => rfl
  | cons c r ih =>
    rw [List.map_cons, List.flatten_cons, ih]
    rfl
theorem sum_sgn (cs : List Nat) : ((cs.map sgn).map (·.length)).sum = cs.length := by
  induction cs with
  | nil => rfl
  | cons c r ih =>
    rw [List.map_cons, List.map_cons, List.sum_cons, ih, List.length_cons]
    show 1 + r.length = r.length + 1
    omega
theorem plainAll_strs (xs : List Str) : PyData.plainAll (xs.map .str) = true := by
  induction xs with
  | nil => rfl
  | cons x r ih =>
    rw [List.map_cons, PyData.plainAll, ih]
    rfl
theorem atI_in {α : Type} {xs : List α} {i : Int} (h0 : 0 ≤ i) (h1 : i < xs.length) : ∃ c, atI xs i = some c ∧ c ∈ xs ∧ xs[i.toNat]? = some c := by
  obtain ⟨k, rfl⟩ := Int.eq_ofNat_of_zero_le h0
  have hk : k < xs.length := by omega
  exact ⟨xs[k], atI_nat (List.getElem?_eq_getElem hk), List.getElem_mem hk, List.getElem?_eq_getElem hk⟩
section
variable {K : PySem.W.Frag} {env : G.Env} {cs : List Cell} {Φ : Vl → List Cell → Prop} {x y : Vl}
theorem wv_ixS {z : Str} {i : Int} (hx : x = .dat (.str z)) (hy : y = .dat (.int i)) (hl : z.length ≤ 1000000) (h0 : 0 ≤ i) (h1 : i < z.length) (f : ∀ c, c ∈ tl z → (tl z)[i.toNat]? = some c → (sgn c).length = 1 → Φ (.dat (.str (sgn c))) cs) : wpR K (gIx K) x y env cs Φ := by
  obtain ⟨c, h2, h3, h4⟩ := atI_in (xs := tl z) h0 (by rw [← len_tl]; exact h1)
  exact wu_ixS hx hy hl h2 (f c h3 h4 rfl)
theorem wv_ixC {xs : List Vl} {k : Nat} {i : Int} (hx : x = .cel k) (hy : y = .dat (.int i)) (hc : cs[k]? = some (.lst xs)) (h0 : 0 ≤ i) (h1 : i < xs.length) (f : ∀ z, z ∈ xs → xs[i.toNat]? = some z → Φ z cs) : wpR K (gIx K) x y env cs Φ := by
  obtain ⟨c, h2, h3, h4⟩ := atI_in (xs := xs) h0 h1
  exact wu_ixC hx hy hc h2 (f c h3 h4)
theorem wv_ixT {ds : List D} {i : Int} (hx : x = .dat (.tuple ds)) (hy : y = .dat (.int i)) (h0 : 0 ≤ i) (h1 : i < ds.length) (f : ∀ d, d ∈ ds → ds[i.toNat]? = some d → Φ (.dat d) cs) : wpR K (gIx K) x y env cs Φ := by
  obtain ⟨c, h2, h3, h4⟩ := atI_in (xs := ds) h0 h1
  exact wu_ixT hx hy h2 (f c h3 h4)
theorem wv_ixL {ds : List D} {i : Int} (hx : x = .dat (.list ds)) (hy : y = .dat (.int i)) (h0 : 0 ≤ i) (h1 : i < ds.length) (f : ∀ d, d ∈ ds → ds[i.toNat]? = some d → Φ (.dat d) cs) : wpR K (gIx K) x y env cs Φ := by
  obtain ⟨c, h2, h3, h4⟩ := atI_in (xs := ds) h0 h1
  exact wu_ixL hx hy h2 (f c h3 h4)
theorem wv_addS {i j : Str} (hx : x = .dat (.str i)) (hy : y = .dat (.str j)) (hl : i.length + j.length ≤ 1000000) (f : (i ++ j).length = i.length + j.length → Φ (.dat (.str (i ++ j))) cs) : wpR K (gAdd K) x y env cs Φ := wu_addS hx hy hl (f (len_adds i j))
theorem wv_slp {z : Str} {i : Int} (hx : x = .dat (.str z)) (hl : z.length ≤ 1000000) (h0 : 0 ≤ i) (f : (cutS z none (some i)).length = min i.toNat z.length → Φ (.dat (.str (cutS z none (some i)))) cs) : wpX K (gSl K) x none (some i) env cs Φ := wu_slS hx hl (f (len_cutp z h0))
theorem wv_sls {z : Str} {i : Int} (hx : x = .dat (.str z)) (hl : z.length ≤ 1000000) (h0 : 0 ≤ i) (f : (cutS z (some i) none).length = z.length - i.toNat → Φ (.dat (.str (cutS z (some i) none))) cs) : wpX K (gSl K) x (some i) none env cs Φ := wu_slS hx hl (f (len_cuts z h0))
end
section
variable {K : PySem.W.Frag} {env : G.Env} {cs : List Cell} {a : AE} {t u u1 u2 : TS} {te : TE} {g : TG} {tt : TT}
theorem ws_cut (Mid : G.Env → List Cell → Prop) (h : G.wpS K t env cs { a with nx := Mid }) (k : ∀ e c, Mid e c → G.wpS K u e c a) : G.wpS K (tSeq t u) env cs a :=
  ws_seq (ws_mono h k (fun _ _ q => q) (fun _ _ q => q) (fun _ _ q => q))
theorem ws_seqa (h : G.wpS K (tAsg te g) env cs { a with nx := fun e c => G.wpS K u e c a }) : G.wpS K (tSeq (tAsg te g) u) env cs a := ws_seq h
theorem ws_seqd (h : G.wpS K (tDrop te) env cs { a with nx := fun e c => G.wpS K u e c a }) : G.wpS K (tSeq (tDrop te) u) env cs a := ws_seq h
theorem ws_seqn (h : G.wpS K u env cs a) : G.wpS K (tSeq tNext u) env cs a := ws_seq (ws_next h)
theorem ws_seqi (h : G.wpS K (tIfS tt u1 u2) env cs { a with nx := fun e c => G.wpS K u e c a }) : G.wpS K (tSeq (tIfS tt u1 u2) u) env cs a := ws_seq h
end
theorem cmulw {i j : Int} (hi : -(2 ^ 1000) < i ∧ i < 2 ^ 1000) (hj : -(2 ^ 1000) < j ∧ j < 2 ^ 1000) : CMulW i j := wide_mul (a := 1000) (b := 1000) (by omega) (by omega) (by decide) (by decide) (by decide)
theorem cdivw {i j : Int} (h0 : 0 < j) (hj : j < 2 ^ 1000) : CDivW i j := wide_div (b := 1000) h0 (by omega) (by decide) (by decide)
/-- the law's call, from the hand layer's own words -/
def notTab (K : PySem.W.Frag) (H : Hp) : Hp := fun b => if b ∈ (tabsOf K).map (fun p : Addr × Str => p.1) then none else H b
theorem law_in {K : PySem.W.Frag} {H : Hp} {a : Addr} {ns : List Int} {asl : AS} (hT : ∀ p ∈ tabsOf K, H p.1 = some (.tbl #[])) (hS : SqL K H a (ns.map V.int)) (ha : ∀ Φ : Vl → List Cell → Prop, Φ (.dat (.bool true)) [] → asl [.dat (.list (ns.map .int))] [] Φ) :
    conc K asl [.ref a] H (fun v _ => v = .bl true) fun _ _ _ => False := by
  have hB : ∀ b o, notTab K H b = some o → H b = some o := fun b o q => by
    unfold notTab at q
    split at q
    · cases q
    · exact q
  have hR : ∀ u, (∀ ps, u ≠ HO.tbl ps) → H a = some u → notTab K H a = some u := fun u n q => by
    unfold notTab
    rw [if_neg]
    · exact q
    · intro z
      obtain ⟨p, hp, e⟩ := List.mem_map.mp z
      have h1 := hT p hp
      rw [e, q] at h1
      exact n _ (Option.some.inj h1)
  have hS2 : SqL K (notTab K H) a (ns.map V.int) := by
    rcases hS with (h | ⟨o, h⟩) | h
    · exact .inl (.inl (hR _ (fun ps z => by cases z) h))
    · exact .inl (.inr ⟨o, hR _ (fun ps z => by cases z) h⟩)
    · exact .inr h
  refine ⟨fun _ => none, notTab K H, [], [.dat (.list (ns.map .int))], [], fun x c => x = .dat (.bool true) ∧ c = [], ⟨hB, fun _ _ h => (by cases h), fun _ _ h => (by cases h), rfl, List.nodup_nil, fun _ _ h => by simp at h, fun _ _ _ h => by simp at h, .cons ⟨a, _, rfl, hS2, RpL.of_ints ns⟩ .nil, fun p hp => ⟨rfl, if_pos (List.mem_map.mpr ⟨p, hp, rfl⟩), (fun z => by cases z), #[], hT p hp, True.intro, fun pos cv hc => by simp [codeAmong] at hc⟩⟩, ha _ ⟨rfl, rfl⟩, ?_⟩
  rintro x cs' v B' H' A' ⟨rfl, rfl⟩ _ _ s
  cases s.sl with
  | cons r _ => exact r
end G
namespace G
open PySem PySem.Spec PyProof.Rows L2 TL
open PySem.AutoSeq1 (wpAny_loadPart')
theorem meets_enumerate_newT (l : Addr) (items : Array Value) (n : Nat) (dct : Option Addr) (sl : Array (Option Value)) :
    Meets (Builtin.«enumerate.__new__» ⟨[.type "enumerate", .ref l], []⟩) (fun _ R s => s.heap.get? l = some { cls := .type "tuple", dict := dct, data := .seq items n, slots := sl } ∧
      R (.ok (.ret (.ref (s.heap.push { cls := .type "tuple_iterator", data := .fields #[.ref l, .int 0 0] }).objs.size)))
        { s with heap := (s.heap.push { cls := .type "tuple_iterator", data := .fields #[.ref l, .int 0 0] }).push { cls := .type "enumerate", data := .fields #[.none, .bool false, .ref s.heap.objs.size, rawInt 0, .none, .none] } }) :=
  .of_wp fun prog w A R s h => by
    obtain ⟨hp, g, d, tk, os⟩ := s; obtain ⟨hl, h⟩ := h
    have hsub := sub_enumerate
    have hL : Heap.IsTuple (Shared.heap ⟨hp, g, d, tk, os⟩) l items := ⟨_, hl, rfl, n, rfl⟩
    wp_walk using wpAny_loadPart' hl
    refine wpAny_stack_any fun st => wpAny_pure ?_
    split
    · rename_i c _ _ _ _ _
      cases (c == Value.type "enumerate")
      · wp_walk using wpAny_loadPart' hl, wpAny_pyIter_tuple hL
        exact ⟨_, rfl, h⟩
      · wp_walk using wpAny_loadPart' hl, wpAny_pyIter_tuple hL
        exact ⟨_, rfl, h⟩
    · wp_walk using wpAny_loadPart' hl, wpAny_pyIter_tuple hL
      exact ⟨_, rfl, h⟩
section
variable {prog : Program} {w : World} {A : Around} {E : Value → Shared → Prop} {s : Shared}
theorem call_enumerate_tuple {l : Addr} {items : Array Value} {Q : Value → Shared → Prop} (hL : s.heap.IsTuple l items)
    (h : ∀ h', IsEnum h' (s.heap.objs.size + 1) s.heap.objs.size 0 .none → h'.IsTupleIter s.heap.objs.size l 0 → h'.objs.size = s.heap.objs.size + 2 →
      (∀ b o, s.heap.get? b = some o → h'.get? b = some o) → Q (.ref (s.heap.objs.size + 1)) { s with heap := h' }) :
    wpAny (model prog w) A (call (.type "enumerate") [.ref l]) Q E s := by
  obtain ⟨⟨c, dct, dt, sl⟩, hl, hc, n, hd⟩ := hL
  replace hc : c = .type "tuple" := hc
  replace hd : dt = .seq items n := hd
  subst hc hd
  refine callType_new F.called_enumerate (by decide) (F.typeCall_enumerate_1 _) (F.newCall_enumerate_1 _) (fun obj => F.args_object_init_2 obj _) F.entry_enumerate_new
    (meets_enumerate_newT l items n dct sl) ⟨hl, ?_⟩
  have hz : (s.heap.push { cls := .type "tuple_iterator", data := .fields #[.ref l, .int 0 0] }).objs.size = s.heap.objs.size + 1 := Heap.size_push ..
  show _ ∧ _
  rw [hz]
  have he : IsEnum ((s.heap.push { cls := .type "tuple_iterator", data := .fields #[.ref l, .int 0 0] }).push
      { cls := .type "enumerate", data := .fields #[.none, .bool false, .ref s.heap.objs.size, rawInt 0, .none, .none] }) (s.heap.objs.size + 1) s.heap.objs.size 0 .none := by
    have := Heap.get?_push_size (s.heap.push { cls := .type "tuple_iterator", data := .fields #[.ref l, .int 0 0] })
      (o := { cls := .type "enumerate", data := .fields #[.none, .bool false, .ref s.heap.objs.size, rawInt 0, .none, .none] }) rfl
    rw [hz] at this; exact this
  refine ⟨⟨_, he, rfl⟩, h _ he ⟨_, Heap.get?_push_of_some _ (Heap.get?_push_size _ rfl), rfl, rfl⟩ (by rw [Heap.size_push, hz]) fun b o x => Heap.get?_push_of_some _ (Heap.get?_push_of_some _ x)⟩
end
/-- the tuple at a, each item in a new pair -/
def IteT (K : PySem.W.Frag) (a : Addr) : It :=
  ⟨fun i H => ∃ (xs : List V) (x : V), SqT K H a xs ∧ xs[i]? = some x, fun i H v H' => ∃ T x, v = .ref T ∧ H T = none ∧ H' = upd H T (.tup [.int (i : Nat), x]) ∧ ∀ xs, SqT K H a xs → xs[i]? = some x, fun i H => ∃ xs : List V, SqT K H a xs ∧ xs.length = i⟩
theorem tup_ne_iter {h : Heap} {a it : Addr} {i : Nat} {items : Array Value} (p : h.IsTuple a items) (q : h.IsTupleIter it a i) : a ≠ it := fun e => by
  subst e
  obtain ⟨o, h1, h2, _⟩ := p
  obtain ⟨o', h3, h4, _⟩ := q
  rw [h1] at h3
  cases h3
  rw [h2] at h4
  exact absurd h4 (by decide)
theorem turn_enumT {P : Program} {w : World} {K : PySem.W.Frag} {elts : List Expr} {kk : Nat} {tpos : Pos} (a e it : Addr) :
    Turn P w K (.Tuple elts kk tpos) (IteT K a) [e, it] e (fun i h => (∃ old, IsEnum h e it ((i : Nat) : Int) old) ∧ h.IsTupleIter it a i ∧ e ≠ it) where
  mem := by simp
  obj := fun i h st b hb => by
    obtain ⟨⟨old, he⟩, ⟨o, ho, hc, hd⟩, _⟩ := st
    have e' : b = e ∨ b = it := by simpa using hb
    rcases e' with z | z
    · rw [z]; exact ⟨_, he, fun v q => nomatch q⟩
    · rw [z]; exact ⟨o, ho, fun v q => by rw [hd] at q; cases q⟩
  keep := fun i h h' st k => let ⟨⟨old, he⟩, hi, hne⟩ := st; ⟨⟨old, k e (by simp) _ he⟩, hi.at fun o q => k it (by simp) o q, hne⟩
  item := by
    intro X hP hw hK hc i pins s σ H E I hf st hg
    subst hP hw hK
    obtain ⟨⟨old, he⟩, hit, hne⟩ := st
    obtain ⟨xs, x, hq, hx⟩ := hg
    obtain ⟨its, rv, p, hz⟩ := I.tuple hq
    obtain ⟨u, hu, ru⟩ := rv.get hx
    have hel : e < s.heap.objs.size := Heap.lt_size he
    have hil : it < s.heap.objs.size := by obtain ⟨_, q, _⟩ := hit; exact Heap.lt_size q
    have hlt : i < its.toArray.size := by
      have := (List.getElem?_eq_some_iff.mp hu).1
      simpa using this
    have nea : e ≠ a := fun z => by
      obtain ⟨o, h1, h2, _⟩ := p
      rw [z] at he
      have he' : s.heap.get? a = _ := he
      rw [h1] at he'
      cases he'
      have h3 : Value.type "enumerate" = Value.type "tuple" := h2
      exact absurd h3 (by decide)
    refine wpAny_pyNext_enum_itemD (Draws.tuple (A := X.A.in1) (I.ok.hd hc) it a (tup_ne_iter p hit) its.toArray) he ⟨hit, p⟩ hlt hne (by simp [hne, nea]) fun x' h' tk hx' ho hst' hT hsz hk => ?_
    have ex : x' = u := by
      have hx2 : its.toArray[i]? = some x' := hx'
      have hu2 : its.toArray[i]? = some u := by simpa using hu
      rw [hx2] at hu2
      exact Option.some.inj hu2
    subst ex
    refine ⟨_, rfl, wpAny_letOwnedTupleGo_enum (s := { s with heap := h', toks := tk + 1 }) ho fun h'' he' sb => ?_⟩
    have hT2 : h''.get? s.heap.objs.size = some { cls := .type "tuple", data := .seq #[.int i tk, x'] } := (sb.2 _ (Nat.ne_of_gt hel)).trans hT
    have new : ObjOk X.prog X.w (upd H s.heap.objs.size (.tup [.int (i : Nat), x])) h'' s.heap.objs.size (.tup [.int (i : Nat), x]) :=
      ⟨by show 2 ≤ sizeLine; decide, [.int i tk, x'], .cons ⟨_, rfl⟩ (.cons ru .nil), ⟨_, hT2, rfl, _, rfl⟩⟩
    have I1 : Inv X pins σ (upd H s.heap.objs.size (.tup [.int (i : Nat), x])) { s with heap := h'', toks := tk + 1 } :=
      I.turnedNew (ch := [e, it]) (fun b ob hb q => (sb.2 b (fun z => hb (by simp [z]))).trans (hk b ob (fun z => hb (by simp [z])) (fun z => hb (by simp [z])) q)) hf (Nat.le_refl _) new
    refine ⟨.ref s.heap.objs.size, _, I1, rfl, ⟨_, x, rfl, I.hok.fresh (Nat.le_refl _), rfl, fun ys hy => by rw [I.tuple_inj hy hq]; exact hx⟩, ⟨⟨x', ?_⟩, hst'.1.at fun o q => (sb.2 it (Ne.symm hne)).trans q, hne⟩, fun b hb => ?_⟩
    · have e1 : ((i + 1 : Nat) : Int) = (i : Int) + 1 := by omega
      rw [e1]; exact he'
    · have hb' : b < s.heap.objs.size := by
        have e' : b = e ∨ b = it := by simpa using hb
        rcases e' with z | z
        · rw [z]; exact hel
        · rw [z]; exact hil
      rw [upd_ne (Nat.ne_of_lt hb')]
      exact (hf b hb).1
  done := by
    intro X hP hw hK hc i pins s σ H E I hf st hg
    subst hP hw hK
    obtain ⟨⟨old, he⟩, hit, hne⟩ := st
    obtain ⟨xs, hq, hx⟩ := hg
    obtain ⟨its, rv, p, hz⟩ := I.tuple hq
    obtain ⟨f0, f1, f2, f3, f4, f5⟩ := hf it (by simp)
    have hl := rv.length
    have nea : e ≠ a := fun z => by
      obtain ⟨o, h1, h2, _⟩ := p
      rw [z] at he
      have he' : s.heap.get? a = _ := he
      rw [h1] at he'
      cases he'
      have h3 : Value.type "enumerate" = Value.type "tuple" := h2
      exact absurd h3 (by decide)
    have hn : its.toArray.size = i := by
      rw [List.size_toArray]
      omega
    exact wpAny_pyNext_enum_endD (Draws.tuple (A := X.A.in1) (I.ok.hd hc) it a (tup_ne_iter p hit) its.toArray) he (by rw [hn]; exact ⟨hit, p⟩) fun h' eb => ⟨rfl, I.turned (t' := s.toks) (fun b o hb q => eb b o hb q) f0 f1 f3 f4 f5⟩
  self := fun A i s Q E st h => let ⟨⟨_, he⟩, _⟩ := st; wpAny_pyIter_enum he h
/-- enumerate of a list or of a tuple -/
def gEnum (K : PySem.W.Frag) (ta : TA) : TI := fun σ H R => ta σ H fun vs H1 => ∃ a xs, vs = [.ref a] ∧ ((SqL K H1 a xs ∧ R (Ite K a) H1) ∨ (SqT K H1 a xs ∧ R (IteT K a) H1))
theorem gi_enum {X : Cx} {K : PySem.W.Frag} {e : Expr} {ta : TA} {p pos tpos : Pos} {elts : List Expr} {kk : Nat} (hK : X.K = K) (hg : Gl X "enumerate") (hm : X.mg "enumerate" = none) (ha : PA X [e] ta) (hs : starEach [e] X.env = [(false, eval e X.env)] := by rfl) :
    PI X (.Tuple elts kk tpos) (.Call (.Name "enumerate" p) [e] [] pos) (gEnum K ta) := by
  subst hK
  refine ⟨fun pins s σ H R I h => ?_⟩
  refine Call_ (ld_blt I hg hm boot_enumerate (PyProof.Rows.callWith_type1 (thn (ha.run pos pins s σ H _ I h) fun us s1 ⟨vs, H1, I1, r1, q1⟩ => ?_) hs rfl))
  obtain ⟨a, xs, ex, q⟩ := q1
  subst ex
  cases r1 with
  | cons r rr =>
    cases rr
    cases r
    have fp : ∀ b ∈ [s1.heap.objs.size + 1, s1.heap.objs.size], FpOk X pins H1 b := fun b hb => by
      have e' : b = s1.heap.objs.size + 1 ∨ b = s1.heap.objs.size := by simpa using hb
      have hle : s1.heap.objs.size ≤ b := by
        rcases e' with z | z
        · rw [z]; exact Nat.le_add_right _ _
        · rw [z]; exact Nat.le_refl _
      exact I1.fpOk hle (I1.hok.fresh hle)
    rcases q with ⟨hq, q⟩ | ⟨hq, q⟩
    · obtain ⟨its, rv, p', hz⟩ := I1.list hq
      refine call_enumerate_list p'.isList fun h' he hit hsz hk => wpAny_pyIter_enum he ?_
      have I2 : Inv X pins σ H1 { s1 with heap := h' } := I1.kept (t' := s1.toks) hk
      exact ⟨s1.heap.objs.size + 1, [s1.heap.objs.size + 1, s1.heap.objs.size], _, _, H1, rfl, I2, turn_enum a (s1.heap.objs.size + 1) s1.heap.objs.size, ⟨⟨.none, he⟩, hit, Nat.succ_ne_self _⟩, fp, q⟩
    · obtain ⟨its, rv, p', hz⟩ := I1.tuple hq
      refine call_enumerate_tuple p' fun h' he hit hsz hk => wpAny_pyIter_enum he ?_
      have I2 : Inv X pins σ H1 { s1 with heap := h' } := I1.kept (t' := s1.toks) hk
      exact ⟨s1.heap.objs.size + 1, [s1.heap.objs.size + 1, s1.heap.objs.size], _, _, H1, rfl, I2, turn_enumT a (s1.heap.objs.size + 1) s1.heap.objs.size, ⟨⟨.none, he⟩, hit, Nat.succ_ne_self _⟩, fp, q⟩
/-! ### walks of pairs -/
def enumD (ds : List D) : List D := (List.range ds.length).map fun i => .tuple [.int (i : Nat), ds.getD i .none]
theorem enumD_len {ds : List D} : (enumD ds).length = ds.length := by simp [enumD]
theorem enumD_get {ds : List D} {i : Nat} {d : D} (h : ds[i]? = some d) : (enumD ds)[i]? = some (.tuple [.int (i : Nat), d]) := by
  have hi := (List.getElem?_eq_some_iff.mp h).1
  unfold enumD
  rw [List.getElem?_map, List.getElem?_range hi, Option.map_some, List.getD_eq_getElem?_getD, h]
  rfl
section
variable {K : PySem.W.Frag} {env : G.Env} {cs : List Cell} {ta : TA}
/-- a new pair is laid -/
theorem St.pair {F B H : Hp} {A : List Addr} {env : G.Env} {cs : List Cell} {σ : L2.St} {T : Addr} {v w : V} {d e : D} (s : G.St K F B H A env cs σ) (hT : H T = none) (h1 : Rp K B d v) (h2 : Rp K B e w) :
    ∃ B3, Same B B3 ∧ G.St K F B3 (upd H T (.tup [v, w])) A env cs σ ∧ Rp K B3 (.tuple [d, e]) (.ref T) := by
  have sb : Same B (upd B T (.tup [v, w])) := same_up s.eb hT
  exact ⟨_, sb, s.tup hT, T, [v, w], rfl, SqT.of upd_same, v, [w], rfl, h1.mono sb, w, [], rfl, h2.mono sb, rfl⟩
theorem walk_enumT {a : Addr} {xs : List V} : Walk (IteT K a) xs.length (fun H => SqT K H a xs) (YPair (fun i => some (.int (i : Nat))) (fun i => xs[i]?)) where
  goes := fun i H hi h => ⟨xs, xs[i], h, List.getElem?_eq_getElem hi⟩
  stops := fun H h => ⟨xs, h, rfl⟩
  yields := fun i H x H' hi h ⟨T, y, e, hT, eH, hy⟩ => ⟨T, .int (i : Nat), y, e, hT, eH, rfl, hy xs h⟩
theorem wi_enum {Φ : List D → (List Cell → Prop) → List Cell → Prop} (h : wpA K ta env cs fun xs c => (∃ ds, (xs = [.dat (.tuple ds)] ∨ xs = [.dat (.list ds)]) ∧ Φ (enumD ds) (fun _ => True) c) ∨ ∃ (k : Nat) (ds : List D), xs = [.cel k] ∧ c[k]? = some (.lst (ds.map .dat)) ∧ Φ (enumD ds) (fun c2 => c2[k]? = some (.lst (ds.map .dat))) c) : wpI K (gEnum K ta) env cs Φ := fun F B H A σ s R k =>
  h F B H A σ s _ fun xs c vs B' H' A' f e p s' r => by
    rcases f with ⟨ds, rfl | rfl, f⟩ | ⟨j, ds, rfl, hc, f⟩
    · cases r with
      | cons r1 r2 =>
        cases r2
        obtain ⟨b, vs, rfl, hs, hr⟩ := r1
        refine ⟨b, vs, rfl, .inr ⟨sqT_mono s'.eb hs, k _ _ c _ B' H' A' f e p s' ⟨_, _, (show Walk (IteT K b) (enumD ds).length _ _ by rw [enumD_len, ← hr.length]; exact walk_enumT), fun F2 B2 H2 A2 env2 cs2 σ2 e2 p2 s2 _ => sqT_mono s2.eb (sqT_mono e2 hs), ?_⟩⟩⟩
        rintro i H2 x H3 hi ⟨T, v, w, rfl, hT, rfl, hv, hw⟩ F2 B2 A2 env2 cs2 σ2 e2 p2 s2 _
        cases hv
        obtain ⟨d, hd, q⟩ := hr.getV hw
        obtain ⟨B3, g1, g2, g3⟩ := s2.pair (d := .int (i : Nat)) hT rfl (q.mono e2)
        exact ⟨B3, _, g1, g2, enumD_get hd, g3⟩
    · cases r with
      | cons r1 r2 =>
        cases r2
        obtain ⟨b, vs, rfl, hs, hr⟩ := r1
        refine ⟨b, vs, rfl, .inl ⟨sqL_mono s'.eb hs, k _ _ c _ B' H' A' f e p s' ⟨_, _, (show Walk (Ite K b) (enumD ds).length _ _ by rw [enumD_len, ← hr.length]; exact walk_enum), fun F2 B2 H2 A2 env2 cs2 σ2 e2 p2 s2 _ => sqL_mono s2.eb (sqL_mono e2 hs), ?_⟩⟩⟩
        rintro i H2 x H3 hi ⟨T, v, w, rfl, hT, rfl, hv, hw⟩ F2 B2 A2 env2 cs2 σ2 e2 p2 s2 _
        cases hv
        obtain ⟨d, hd, q⟩ := hr.getV hw
        obtain ⟨B3, g1, g2, g3⟩ := s2.pair (d := .int (i : Nat)) hT rfl (q.mono e2)
        exact ⟨B3, _, g1, g2, enumD_get hd, g3⟩
    · cases r with
      | cons r1 r2 =>
        cases r2
        obtain ⟨b, hA, rfl⟩ := r1
        obtain ⟨vs, hs, hr0⟩ := s'.ch j b _ hA hc
        have hr := RpVs.dats hr0
        refine ⟨b, vs, rfl, .inl ⟨SqL.of hs, k _ _ c _ B' H' A' f e p s' ⟨fun H => ∃ xs, xs.length = ds.length ∧ SqL K H b xs, fun i H v H' => ∃ T x, v = .ref T ∧ H T = none ∧ H' = upd H T (.tup [.int (i : Nat), x]) ∧ ∀ xs, SqL K H b xs → xs[i]? = some x, ?_,
          fun F2 B2 H2 A2 env2 cs2 σ2 e2 p2 s2 kp => ?_, ?_⟩⟩⟩
        · rw [enumD_len]
          exact ⟨fun i H hi ⟨xs, hl, hx⟩ => ⟨xs, xs[i]'(by omega), hx, List.getElem?_eq_getElem (by omega)⟩, fun H ⟨xs, hl, hx⟩ => ⟨xs, hx, by omega⟩, fun i H x H' hi _ hy => hy⟩
        · obtain ⟨ws, hs2, hr2⟩ := s2.ch j b _ (p2 _ _ hA) kp
          exact ⟨ws, (RpVs.dats hr2).length, SqL.of hs2⟩
        · rintro i H2 x H3 hi ⟨T, w, rfl, hT, rfl, hw⟩ F2 B2 A2 env2 cs2 σ2 e2 p2 s2 kp
          obtain ⟨ws, hs2, hr2⟩ := s2.ch j b _ (p2 _ _ hA) kp
          obtain ⟨d, hd, q⟩ := (RpVs.dats hr2).getV (hw ws (SqL.of hs2))
          obtain ⟨B3, g1, g2, g3⟩ := s2.pair (d := .int (i : Nat)) hT rfl q
          exact ⟨B3, _, g1, g2, enumD_get hd, g3⟩
end
end G
namespace G
open PySem PySem.Spec PyProof.Rows L2 TL
section
variable {X : Cx} {K : PySem.W.Frag}
def gTuple (K : PySem.W.Frag) : List V → Hp → VK → Prop := fun xs H Q => ∃ p ys, xs = [.ref p] ∧ ((SqL K H p ys ∧ ∀ l o, H l = none → o.dict = none → Q (.ref l) (upd H l (.frz o (.tup ys)))) ∨ (SqT K H p ys ∧ Q (.ref p) H))
theorem kc_tuple (hK : X.K = K) : CallR X (.type "tuple") (gTuple K) := by
  subst hK
  intro pins s σ H xs us Q I r h
  obtain ⟨p, ys, rfl, h⟩ := h
  obtain ⟨u, rfl, rx⟩ := vals1 r
  cases rx
  rcases h with ⟨hq, q⟩ | ⟨hq, q⟩
  · obtain ⟨its, rv, pl, hz⟩ := I.list hq
    have hlen := rv.length
    refine call_tuple_list pl.isList (fun h' kp => ?_) (by simp only [List.size_toArray]; omega)
    have I1 : Inv X pins σ H { s with heap := h' } := I.kept (t' := s.toks) kp
    have ho := Heap.get?_push_size h' (o := { cls := .type "tuple", data := .seq its.toArray }) rfl
    have I2 := I1.laid (t' := s.toks) (h' := h'.push { cls := .type "tuple", data := .seq its.toArray }) (o := .frz { cls := .type "tuple", data := .seq its.toArray } (.tup ys)) (fun b o e => Heap.get?_push_of_some _ e) (Nat.le_refl _) ⟨ho, hz, its, rv, IsTup.new _ _⟩
    exact ⟨.ref h'.objs.size, _, I2, rfl, q _ _ (I1.hok.fresh (Nat.le_refl _)) rfl⟩
  · obtain ⟨its, rv, pl, hz⟩ := I.tuple hq
    exact call_tuple_same pl ⟨.ref p, H, I, rfl, q⟩
def gList (K : PySem.W.Frag) : List V → Hp → VK → Prop := fun xs H Q => ∃ p ys, xs = [.ref p] ∧ (SqL K H p ys ∨ SqT K H p ys) ∧ ∀ l, H l = none → Q (.ref l) (upd H l (.lst ys))
end
section
variable {K : PySem.W.Frag} {env : G.Env} {cs : List Cell} {Φ : Vl → List Cell → Prop} {x y : Vl} {ta : TA} {te to ta2 : TE}
theorem wc_tupL {ds : List D} (hx : DatOf cs x (.list ds)) (f : Φ (.dat (.tuple ds)) cs) : wpC K (gTuple K) [x] env cs Φ := fun F B H A σ vs s r Q q => by
  cases r with
  | cons r1 r2 =>
    cases r2
    rcases hx with rfl | ⟨k, es, rfl, hc, e⟩
    · obtain ⟨a, vs, rfl, hs, hr⟩ := r1
      exact ⟨a, vs, rfl, .inl ⟨sqL_mono s.eb hs, fun p o hp _ => q.tupF s hp hr f⟩⟩
    · cases e
      obtain ⟨a, ha, rfl⟩ := r1
      obtain ⟨vs, hs, hr⟩ := s.ch k a _ ha hc
      exact ⟨a, vs, rfl, .inl ⟨SqL.of hs, fun p o hp _ => q.tupF s hp (RpVs.dats hr) f⟩⟩
theorem wc_tupT {ds : List D} (hx : x = .dat (.tuple ds)) (f : Φ (.dat (.tuple ds)) cs) : wpC K (gTuple K) [x] env cs Φ := fun F B H A σ vs s r Q q => by
  subst hx
  cases r with
  | cons r1 r2 =>
    cases r2
    have r1' := r1
    obtain ⟨a, vs, rfl, hs, hr⟩ := r1
    exact ⟨a, vs, rfl, .inr ⟨sqT_mono s.eb hs, q.now s (x := .dat (.tuple ds)) r1' f⟩⟩
theorem wc_listL {ds : List D} (hx : DatOf cs x (.list ds) ∨ x = .dat (.tuple ds)) (f : Φ (.cel cs.length) (cs ++ [.lst (ds.map .dat)])) : wpC K (gList K) [x] env cs Φ := fun F B H A σ vs s r Q q => by
  cases r with
  | cons r1 r2 =>
    cases r2
    rcases hx with (rfl | ⟨k, es, rfl, hc, e⟩) | rfl
    · obtain ⟨a, vs, rfl, hs, hr⟩ := r1
      exact ⟨a, vs, rfl, .inl (sqL_mono s.eb hs), fun p hp => q.lst s hp (RpVs.of_dats hr) f⟩
    · cases e
      obtain ⟨a, ha, rfl⟩ := r1
      obtain ⟨vs, hs, hr⟩ := s.ch k a _ ha hc
      exact ⟨a, vs, rfl, .inl (SqL.of hs), fun p hp => q.lst s hp hr f⟩
    · obtain ⟨a, vs, rfl, hs, hr⟩ := r1
      exact ⟨a, vs, rfl, .inr (sqT_mono s.eb hs), fun p hp => q.lst s hp (RpVs.of_dats hr) f⟩
/-- a list stays readable -/
theorem St.seqL {F B H : Hp} {A : List Addr} {cs : List Cell} {σ : L2.St} {x : Vl} {v : V} {ds : List D} (s : G.St K F B H A env cs σ) (r : RpV K B A x v) (h : DatOf cs x (.list ds)) :
    ∃ b, v = .ref b ∧ ∀ (F2 B2 H2 : Hp) (A2 : List Addr) (env2 : G.Env) (cs2 : List Cell) (σ2 : L2.St), Same B B2 → G.Pre A A2 → G.St K F2 B2 H2 A2 env2 cs2 σ2 → DatOf cs2 x (.list ds) → ∃ vs, SqL K H2 b vs ∧ RpL K B2 ds vs := by
  rcases h with rfl | ⟨k, es, rfl, hc, e⟩
  · obtain ⟨b, vs, rfl, hs, hr⟩ := r
    exact ⟨b, rfl, fun F2 B2 H2 A2 env2 cs2 σ2 e2 p2 s2 _ => ⟨vs, sqL_mono s2.eb (sqL_mono e2 hs), hr.mono e2⟩⟩
  · cases e
    obtain ⟨b, hA, rfl⟩ := r
    refine ⟨b, rfl, fun F2 B2 H2 A2 env2 cs2 σ2 e2 p2 s2 h2 => ?_⟩
    rcases h2 with h2 | ⟨k2, es2, ek, hc2, e2⟩
    · cases h2
    · cases ek
      cases e2
      obtain ⟨ws, hs2, hr2⟩ := s2.ch k b _ (p2 _ _ hA) hc2
      exact ⟨ws, SqL.of hs2, RpVs.dats hr2⟩
end
end G
namespace G
open PySem PySem.Spec PyProof.Rows L2 TL
section
variable {K : PySem.W.Frag} {env : G.Env} {cs : List Cell} {Φ : Vl → List Cell → Prop} {te tl : TE} {tt : TT} {g : TG} {ti : TI} {vs : List Nat} {ta : TA}
theorem wpG.mono {x : Vl} {Φ Ψ : G.Env → List Cell → Prop} (h : wpG K g x env cs Φ) (k : ∀ e c, Φ e c → Ψ e c) : wpG K g x env cs Ψ := fun F B H A σ v s r N q => h F B H A σ v s r N fun e c σ' B' H' A' f => q e c σ' B' H' A' (k e c f)
theorem wpT.mono {Φ Ψ : Bool → List Cell → Prop} (h : wpT K tt env cs Φ) (k : ∀ b c, Φ b c → Ψ b c) : wpT K tt env cs Ψ := fun F B H A σ s Q q => h F B H A σ s Q fun b c B' H' A' f => q b c B' H' A' (k b c f)
theorem wgs_mc {d : D} {ds : List D} {gs : TGs} {Φ : G.Env → List Cell → Prop} (h : wpG K g (.dat d) env cs fun e c => wpGs K gs (ds.map .dat) e c Φ) : wpGs K (gCons g gs) ((d :: ds).map .dat) env cs Φ := wgs_cons h
theorem wgs_mn {Φ : G.Env → List Cell → Prop} (f : Φ env cs) : wpGs K gNil (([] : List D).map .dat) env cs Φ := wgs_nil f
/-- a result of data: what was laid meanwhile is let go, the cells before may have changed -/
theorem we_gcC (h : wpE K te env cs fun x c => ∃ d, x = .dat d ∧ cs.length ≤ c.length ∧ CsB cs.length (c.take cs.length) ∧ Φ (.dat d) (c.take cs.length)) : wpE K te env cs Φ := fun F B H A σ s Q q =>
  h F B H A σ s Q fun x c v B' H' A' ⟨d, e1, hl, hb, f⟩ e p s' r => by
    subst e1
    have s2 := s'.take (m := cs.length) (env' := env) (σ' := σ) hb (RpOs.mono e (p.take (Nat.le_of_eq s.la)) s.sl)
    exact q (.dat d) (c.take cs.length) v B' H' (A'.take cs.length) f e (p.take (Nat.le_of_eq s.la)) s2 r
end
/-! ### equality of texts -/
theorem eqv_str (a b : Str) : PyData.eqv (.str a) (.str b) = decide (a = b) := by
  show (a == b) = decide (a = b)
  by_cases h : a = b
  · subst h
    simp
  · simp [h]
theorem any_eqv_str (xs : List Str) (z : Str) : ((xs.map PyData.str).any fun y => PyData.eqv y (.str z)) = decide (z ∈ xs) := by
  induction xs with
  | nil => rfl
  | cons x r ih =>
    rw [List.map_cons, List.any_cons, ih, eqv_str]
    by_cases h : x = z
    · subst h
      simp
    · have h2 : ¬ z = x := fun e => h e.symm
      simp [h, h2]
theorem depthAll_strs (xs : List Str) : PyData.depthAll (xs.map .str) ≤ 1 := by
  induction xs with
  | nil => exact Nat.zero_le _
  | cons x r ih =>
    rw [List.map_cons, PyData.depthAll]
    exact Nat.max_le.mpr ⟨by simp [PyData.depth], ih⟩
section
variable {K : PySem.W.Frag} {env : G.Env} {cs : List Cell} {Φ : Vl → List Cell → Prop} {x y : Vl}
theorem wr_eqS {a b : Str} (hx : x = .dat (.str a)) (hy : y = .dat (.str b)) (f : Φ (.dat (.bool (decide (a = b)))) cs) : wpR K (gEq K) x y env cs Φ := by
  subst hx hy
  refine wr_eq .dat .dat rfl rfl (Nat.le_trans (Nat.min_le_left _ _) (by simp [PyData.depth])) ?_
  rw [eqv_str]
  exact f
theorem wr_neS {a b : Str} (hx : x = .dat (.str a)) (hy : y = .dat (.str b)) (f : Φ (.dat (.bool (!decide (a = b)))) cs) : wpR K (gNe K) x y env cs Φ := by
  subst hx hy
  refine wr_ne .dat .dat rfl rfl (Nat.le_trans (Nat.min_le_left _ _) (by simp [PyData.depth])) ?_
  rw [eqv_str]
  exact f
/-- a text among texts -/
theorem wu_inL {z : Str} {xs : List Str} (hx : x = .dat (.str z)) (hy : DatOf cs y (.list (xs.map .str)) ∨ DatOf cs y (.tuple (xs.map .str))) (f : Φ (.dat (.bool (decide (z ∈ xs)))) cs) : wpR K (gInA K false) x y env cs Φ := by
  subst hx
  refine wu_in .dat hy rfl (plainAll_strs xs) (Nat.le_trans (Nat.min_le_left _ _) (Nat.le_trans (depthAll_strs xs) (by decide))) ?_
  rw [any_eqv_str]
  exact f
theorem wu_ninL {z : Str} {xs : List Str} (hx : x = .dat (.str z)) (hy : DatOf cs y (.list (xs.map .str)) ∨ DatOf cs y (.tuple (xs.map .str))) (f : Φ (.dat (.bool (!decide (z ∈ xs)))) cs) : wpR K (gInA K true) x y env cs Φ := by
  subst hx
  refine wu_nin .dat hy rfl (plainAll_strs xs) (Nat.le_trans (Nat.min_le_left _ _) (Nat.le_trans (depthAll_strs xs) (by decide))) ?_
  rw [any_eqv_str]
  exact f
end
theorem cutD_map {α β : Type} (f : α → β) (xs : List α) (lo hi : Option Int) : cutD (xs.map f) lo hi = (cutD xs lo hi).map f := by
  unfold cutD
  rw [List.length_map, List.map_take, List.map_drop]
theorem list_of {α β : Type} {f : β → α} {p : β → Prop} : ∀ {es : List α}, (∀ e, e ∈ es → ∃ b, e = f b ∧ p b) → ∃ bs : List β, es = bs.map f ∧ ∀ b, b ∈ bs → p b
  | [], _ => ⟨[], rfl, fun _ h => by cases h⟩
  | e :: r, h => by
    obtain ⟨b, h1, h2⟩ := h e (List.mem_cons_self ..)
    obtain ⟨bs, h3, h4⟩ := list_of (es := r) fun x hx => h x (List.mem_cons_of_mem _ hx)
    exact ⟨b :: bs, by rw [h1, h3]; rfl, fun x hx => (List.mem_cons.mp hx).elim (fun z => by rw [z]; exact h2) (h4 x)⟩
/-! ### names -/
theorem join_signs {zs : List Nat} : tl (Txt.join (Str.ofString "") (zs.map sgn)) = zs := tl_join0 (by decide +kernel) zs
theorem join_len {zs : List Nat} : (Txt.join (Str.ofString "") (zs.map sgn)).length = zs.length := by
  rw [len_tl, join_signs]
/-! ### elders -/
def eldersL (n : Str) : List Str → List Str
  | [] => []
  | x :: r => if x ≠ n ∧ x ∉ r then x :: eldersL n r else eldersL n r
/-- m is the last place of x -/
def IsLast (row : List Str) (x : Str) (m : Nat) : Prop := row[m]? = some x ∧ ∀ j, row[j]? = some x → j ≤ m
theorem IsLast.tail {row : List Str} {x y : Str} {m : Nat} (h : IsLast (y :: row) x m) (hx : x ∈ row) : ∃ m', m = m' + 1 ∧ IsLast row x m' := by
  obtain ⟨j, hj⟩ := List.getElem?_of_mem hx
  have h1 := h.2 (j + 1) (by rw [List.getElem?_cons_succ]; exact hj)
  obtain ⟨m', rfl⟩ : ∃ m', m = m' + 1 := ⟨m - 1, by omega⟩
  refine ⟨m', rfl, by have := h.1; rw [List.getElem?_cons_succ] at this; exact this, fun k hk => ?_⟩
  have := h.2 (k + 1) (by rw [List.getElem?_cons_succ]; exact hk)
  omega
/-! ### exact values, what is laid meanwhile let go -/
section
variable {K : PySem.W.Frag} {env : G.Env} {cs : List Cell} {Φ : Vl → List Cell → Prop} {ta tb te : TE} {tt : TT}
def XB (a : Bool) (cs : List Cell) : Bool → List Cell → Prop := fun b c => b = a ∧ ∃ g, c = cs ++ g
def XE (d : D) (cs : List Cell) : Vl → List Cell → Prop := fun x c => x = .dat d ∧ ∃ g, c = cs ++ g
theorem XB.mk {a : Bool} {g : List Cell} : XB a cs a (cs ++ g) := ⟨rfl, g, rfl⟩
theorem XE.mk {d : D} {g : List Cell} : XE d cs (.dat d) (cs ++ g) := ⟨rfl, g, rfl⟩
theorem wt_gc0 {Φ : Bool → List Cell → Prop} (h : wpT K tt env cs fun b c => ∃ g, c = cs ++ g ∧ Φ b cs) : wpT K tt env cs Φ := fun F B H A σ s Q q =>
  h F B H A σ s Q fun b c B' H' A' ⟨g, e2, f⟩ e p s' => by
    subst e2
    have ht : (cs ++ g).take cs.length = cs := by simp
    refine q b cs B' H' (A'.take cs.length) f e (p.take (Nat.le_of_eq s.la)) ?_
    have s2 := s'.take (m := cs.length) (env' := env) (σ' := σ) (by rw [ht]; exact s.csb) (RpOs.mono e (p.take (Nat.le_of_eq s.la)) s.sl)
    rw [ht] at s2
    exact s2
theorem wt_XB {a : Bool} (h : wpT K tt env cs (XB a cs)) : wpT K tt env cs fun b c => b = a ∧ c = cs := wt_gc0 (h.mono fun b c ⟨e, g, e2⟩ => ⟨g, e2, e, rfl⟩)
theorem we_XE {d : D} (h : wpE K te env cs (XE d cs)) : wpE K te env cs fun x c => x = .dat d ∧ c = cs := we_gc0 (h.mono fun x c ⟨e, g, e2⟩ => ⟨d, g, e, e2, rfl, rfl⟩)
theorem wt_andG {t u : TT} {a b : Bool} {Φ : Bool → List Cell → Prop} (ha : wpT K t env cs (XB a cs)) (hb : a = true → wpT K u env cs (XB b cs)) (f : Φ (a && b) cs) : wpT K (tAnd t u) env cs Φ := wt_andX (wt_XB ha) (fun h => wt_XB (hb h)) f
theorem wt_orG {t u : TT} {a b : Bool} {Φ : Bool → List Cell → Prop} (ha : wpT K t env cs (XB a cs)) (hb : a = false → wpT K u env cs (XB b cs)) (f : Φ (a || b) cs) : wpT K (tOr t u) env cs Φ := wt_orX (wt_XB ha) (fun h => wt_XB (hb h)) f
theorem we_andG {a b : Bool} (ha : wpE K ta env cs (XE (.bool a) cs)) (hb : a = true → wpE K tb env cs (XE (.bool b) cs)) (f : Φ (.dat (.bool (a && b))) cs) : wpE K (tAndV ta tb) env cs Φ := we_andX (we_XE ha) (fun h => we_XE (hb h)) f
theorem we_orG {a b : Bool} (ha : wpE K ta env cs (XE (.bool a) cs)) (hb : a = false → wpE K tb env cs (XE (.bool b) cs)) (f : Φ (.dat (.bool (a || b))) cs) : wpE K (tOrV ta tb) env cs Φ := we_orX (we_XE ha) (fun h => we_XE (hb h)) f
end
section
variable {K : PySem.W.Frag} {env : G.Env} {cs : List Cell} {Φ : Vl → List Cell → Prop} {x y : Vl}
/-- cuts of a row of texts and the like -/
theorem wv_slTs {α : Type} {fd : α → D} {xs : List α} {i : Int} (hx : x = .dat (.tuple (xs.map fd))) (h0 : 0 ≤ i) (f : Φ (.dat (.tuple ((xs.drop i.toNat).map fd))) cs) : wpX K (gSl K) x (some i) none env cs Φ :=
  wu_slT hx (by rw [cutD_map, cutD_suf _ h0]; exact f)
theorem wv_slTp {α : Type} {fd : α → D} {xs : List α} {i : Int} (hx : x = .dat (.tuple (xs.map fd))) (h0 : 0 ≤ i) (f : Φ (.dat (.tuple ((xs.take i.toNat).map fd))) cs) : wpX K (gSl K) x none (some i) env cs Φ :=
  wu_slT hx (by rw [cutD_map, cutD_pre _ h0]; exact f)
theorem wv_slLs {α : Type} {fd : α → D} {xs : List α} {i : Int} (hx : DatOf cs x (.list (xs.map fd))) (h0 : 0 ≤ i) (f : Φ (.cel cs.length) (cs ++ [.lst (((xs.drop i.toNat).map fd).map .dat)])) : wpX K (gSl K) x (some i) none env cs Φ :=
  wu_slL hx (by rw [cutD_map, cutD_suf _ h0]; exact f)
theorem wv_slLp {α : Type} {fd : α → D} {xs : List α} {i : Int} (hx : DatOf cs x (.list (xs.map fd))) (h0 : 0 ≤ i) (f : Φ (.cel cs.length) (cs ++ [.lst (((xs.take i.toNat).map fd).map .dat)])) : wpX K (gSl K) x none (some i) env cs Φ :=
  wu_slL hx (by rw [cutD_map, cutD_pre _ h0]; exact f)
theorem wv_tupL {α : Type} {fd : α → D} {xs : List α} (hx : DatOf cs x (.list (xs.map fd))) (f : Φ (.dat (.tuple (xs.map fd))) cs) : wpC K (gTuple K) [x] env cs Φ := wc_tupL hx f
/-- append of data behind data -/
theorem wv_append {α : Type} {fd : α → D} {ta te : TE} (h : wpE K ta env cs fun x c1 => ∃ k, x = .cel k ∧ (∃ xs, c1[k]? = some (.lst xs)) ∧ wpE K te env c1 fun y c2 => ∃ (xs : List α) (z : α), c2[k]? = some (.lst ((xs.map fd).map .dat)) ∧ y = .dat (fd z) ∧ xs.length ≤ 1000000 ∧ Φ (.dat .none) (c2.set k (.lst (((xs ++ [z]).map fd).map .dat)))) : wpE K (tBM K "list" rAppend ta (tCons te tNil)) env cs Φ :=
  we_append (h.mono fun x c1 ⟨k, e1, e2, h2⟩ => ⟨k, e1, e2, h2.mono fun y c2 ⟨xs, z, e3, e4, e5, f⟩ => ⟨_, e3, by rw [List.length_map, List.length_map]; exact e5, by
    subst e4
    rw [List.map_append, List.map_append] at f
    exact f⟩⟩)
end
/-! ### defs from data to data -/
abbrev PureAS (rel : List D → D → Prop) : AS := fun args cs Φ => ∃ (ds : List D) (r : D), args = ds.map .dat ∧ cs = [] ∧ rel ds r ∧ Φ (.dat r) []
def Pure1 (rel : List D → D → Prop) (xs : List Vl) (c1 : List Cell) (Φ : Vl → List Cell → Prop) : Prop := ∃ (ds : List D) (r : D), xs = ds.map .dat ∧ rel ds r ∧ Φ (.dat r) c1
theorem ct_pure {rel : List D → D → Prop} {ys : List Vl} {ds : List D} {r : D} {c1 : List Cell} {Φ : Vl → List Cell → Prop} (h0 : datsOf ys = some ds) (h1 : rel ds r) (h : Φ (.dat r) c1) : Pure1 rel ys c1 Φ := ⟨ds, r, datsOf_eq h0, h1, h⟩
theorem vlB_dats : ∀ (ds : List D), ∀ x ∈ ds.map Vl.dat, VlB 0 x
  | [], _, h => by cases h
  | _ :: _, _, h => by
    rcases List.mem_cons.mp h with e | h
    · rw [e]
      trivial
    · exact vlB_dats _ _ h
theorem cl_pure {K : PySem.W.Frag} {rel : List D → D → Prop} {env : G.Env} {cs : List Cell} {ta : TA} {E : XK} {Φ : Vl → List Cell → Prop} (h : wpA K ta env cs fun xs c1 => Pure1 rel xs c1 Φ) : wpE K (tCall (conc K (PureAS rel)) [] E ta) env cs Φ :=
  we_call0 fun F B H A σ s Q q => h F B H A σ s Q fun xs cs' vs B' H' A' ⟨ds, r, e, h1, f⟩ => q xs cs' vs B' H' A' ⟨fun x c => x = .dat r ∧ c = [], ⟨ds, r, e, rfl, h1, rfl, rfl⟩, by rw [e]; exact vlB_dats ds, fun x c ⟨e1, e2⟩ => ⟨_, e1, e2, f⟩⟩
/-! ### comprehensions by plain functions, what is laid meanwhile let go -/
section
variable {K : PySem.W.Frag} {env : G.Env} {cs : List Cell} {Φ : Vl → List Cell → Prop} {te tl : TE} {tt : TT} {g : TG} {ti : TI} {vs : List Nat} {ta : TA}
def Each {α : Type} (K : PySem.W.Frag) (g : TG) (tt : TT) (te : TE) (env : G.Env) (c : List Cell) (fd : α → D) (p : α → Bool) (val : α → D) (a : α) : Prop :=
  wpG K g (.dat (fd a)) env c fun e c2 => c2 = c ∧ wpT K tt e c fun b c3 => b = p a ∧ (∃ g, c3 = c ++ g) ∧ (p a = true → wpE K te e c (XE (val a) c))
theorem we_lcG {α : Type} (go : GO g vs) (fd : α → D) (p : α → Bool) (val : α → D) (h : wpI K ti env cs fun ds keep c => ds.length ≤ 10000000 ∧ keep c ∧ ∃ xs : List α, ds = xs.map fd ∧
      (∀ a, a ∈ xs → Each K g tt te (wipeE env vs) c fd p val a) ∧ Φ (.cel c.length) (c ++ [.lst (((xs.filter p).map val).map .dat)])) : wpE K (tLc ti g tt te vs) env cs Φ :=
  we_lcA go fd p val (h.mono fun ds kp c ⟨h1, h2, xs, h3, h4, h5⟩ => ⟨h1, h2, xs, h3, fun a ha => wpG.mono (h4 a ha) fun e c2 ⟨e1, h⟩ => by
    subst e1
    exact wt_gc0 (h.mono fun b c3 ⟨e2, ⟨g, e3⟩, h⟩ => ⟨g, e3, e2, rfl, fun hp => we_XE (h hp)⟩), h5⟩)
theorem we_allG {α : Type} (go : GO g vs) (fd : α → D) (p q : α → Bool) (h : wpI K ti env cs fun ds keep c => ds.length ≤ 10000000 ∧ keep c ∧ (∃ g, c = cs ++ g) ∧ ∃ xs : List α, ds = xs.map fd ∧
      (∀ a, a ∈ xs → Each K g tt te (wipeE env vs) c fd p (fun a => .bool (q a)) a) ∧ Φ (.dat (.bool ((xs.filter p).all q))) cs) : wpE K (tCB (rAll K) (tCons (tLc ti g tt te vs) tNil)) env cs Φ :=
  we_gc0 (we_cb (wa_cons (we_lcG go fd p (fun a => .bool (q a)) (h.mono fun ds kp c ⟨h1, h2, ⟨g, e⟩, xs, h4, h5, h6⟩ => by
    refine ⟨h1, h2, xs, h4, h5, wa_nil (wc_all (bs := (xs.filter p).map q) (.cel ?_) ⟨_, g ++ [_], rfl, by rw [e, List.append_assoc], ?_⟩)⟩
    · rw [List.getElem?_append_right (Nat.le_refl _), Nat.sub_self]
      simp [Function.comp_def]
    · rw [List.all_map]
      exact h6))))
end
/-! ### lists with places -/
theorem enumD_map {α : Type} (fd : α → D) (xs : List α) : enumD (xs.map fd) = xs.zipIdx.map fun q => .tuple [.int (q.2 : Nat), fd q.1] := by
  apply List.ext_getElem?
  intro i
  rw [List.getElem?_map, List.getElem?_zipIdx]
  cases e : xs[i]? with
  | none =>
    have : (enumD (xs.map fd))[i]? = none := by
      rw [List.getElem?_eq_none_iff, enumD_len, List.length_map]
      exact List.getElem?_eq_none_iff.mp e
    rw [this]
    rfl
  | some x =>
    rw [enumD_get (d := fd x) (by rw [List.getElem?_map, e]; rfl)]
    simp
theorem get_map {α β : Type} {f : α → β} {xs : List α} {i : Nat} {y : β} (h : (xs.map f)[i]? = some y) : ∃ x, xs[i]? = some x ∧ y = f x := by
  rw [List.getElem?_map] at h
  cases e : xs[i]? with
  | none =>
    rw [e] at h
    cases h
  | some x =>
    rw [e] at h
    exact ⟨x, rfl, (Option.some.inj h).symm⟩
theorem go_pair {K : PySem.W.Frag} {i j : Nat} {vs : List Nat} (h1 : i ∈ vs) (h2 : j ∈ vs) : GO (gTup K 2 (gCons (gName i) (gCons (gName j) gNil))) vs :=
  go_tup (gos_cons gm_name (gms_cons gm_name gms_nil) (go_name h1) (gos_cons gm_name gms_nil (go_name h2) gos_nil))
/-! ### turns' ends -/
theorem wk_refl : ∀ (e : G.Env), Wk e e
  | [] => trivial
  | _ :: e => ⟨.inr rfl, wk_refl e⟩
theorem wk_set : ∀ {e e' : G.Env} (v : Nat), Wk e e' → Wk e (e'.set v none)
  | [], [], _, h => h
  | _ :: _, _ :: _, 0, h => ⟨.inl rfl, h.2⟩
  | _ :: _, _ :: _, v + 1, h => ⟨h.1, wk_set v h.2⟩
  | [], _ :: _, _, h => h.elim
  | _ :: _, [], _, h => h.elim
theorem wk_wipe (e : G.Env) : ∀ vs : List Nat, Wk e (wipeE e vs)
  | [] => wk_refl e
  | v :: vs => wk_set v (wk_wipe e vs)
theorem DT.gc (vs : List Nat) {m0 : Nat} {P : G.Env → List Cell → Prop} {e : G.Env} {c : List Cell} (hb : EnvB m0 (wipeE e vs)) (hc : CsB m0 (c.take m0)) (f : P (wipeE e vs) (c.take m0)) : DT m0 P e c :=
  .inr ⟨m0, wipeE e vs, Nat.le_refl _, wk_wipe e vs, hb, hc, f⟩
theorem cb_dats {m : Nat} {ds : List D} : CellB m (.lst (ds.map .dat)) := fun x hx => by
  obtain ⟨d, _, rfl⟩ := List.mem_map.mp hx
  trivial
section
variable {K : PySem.W.Frag} {env : G.Env} {cs : List Cell} {Φ : Vl → List Cell → Prop} {x : Vl}
theorem wv_allC {α : Type} {q : α → Bool} {xs : List α} {k : Nat} (hx : x = .cel k) (hc : cs[k]? = some (.lst ((xs.map fun a => PyData.bool (q a)).map .dat))) (f : Φ (.dat (.bool (xs.all q))) cs) : wpC K (rAll K) [x] env cs Φ := by
  subst hx
  refine wc_all (bs := xs.map q) (.cel ?_) ?_
  · rw [hc, List.map_map (f := q)]
    rfl
  · rw [List.all_map]
    exact f
theorem wv_anyC {α : Type} {q : α → Bool} {xs : List α} {k : Nat} (hx : x = .cel k) (hc : cs[k]? = some (.lst ((xs.map fun a => PyData.bool (q a)).map .dat))) (f : Φ (.dat (.bool (xs.any q))) cs) : wpC K (rAny K) [x] env cs Φ := by
  subst hx
  refine wc_any (bs := xs.map q) (.cel ?_) ?_
  · rw [hc, List.map_map (f := q)]
    rfl
  · rw [List.any_map]
    exact f
end
section
variable {K : PySem.W.Frag} {env : G.Env} {cs : List Cell} {Φ : Vl → List Cell → Prop} {x y : Vl}
/-- an item of a list of data -/
theorem wv_ixCd {xs : List Vl} {ds : List D} {k : Nat} {i : Int} (hx : x = .cel k) (hy : y = .dat (.int i)) (hc : cs[k]? = some (.lst xs)) (hd : datsOf xs = some ds) (h0 : 0 ≤ i) (h1 : i < ds.length) (f : ∀ d, d ∈ ds → ds[i.toNat]? = some d → Φ (.dat d) cs) : wpR K (gIx K) x y env cs Φ := by
  have e := datsOf_eq hd
  subst e
  refine wv_ixC hx hy hc h0 (by rw [List.length_map]; exact h1) fun z hz hi => ?_
  obtain ⟨d, hd, rfl⟩ := List.mem_map.mp hz
  obtain ⟨d', h2, h3⟩ := get_map hi
  cases h3
  exact f d hd h2
theorem wv_ixCm {α : Type} {fd : α → D} {xs : List α} {k : Nat} {i : Int} (hx : x = .cel k) (hy : y = .dat (.int i)) (hc : cs[k]? = some (.lst ((xs.map fd).map .dat))) (h0 : 0 ≤ i) (h1 : i < xs.length) (f : ∀ a, a ∈ xs → xs[i.toNat]? = some a → Φ (.dat (fd a)) cs) : wpR K (gIx K) x y env cs Φ := by
  refine wv_ixC hx hy hc h0 (by rw [List.length_map, List.length_map]; exact h1) fun z hz hi => ?_
  obtain ⟨d', h2, rfl⟩ := get_map hi
  obtain ⟨a, h3, rfl⟩ := get_map h2
  exact f a (List.mem_of_getElem? h3) h3
theorem wv_ixTm {α : Type} {fd : α → D} {xs : List α} {i : Int} (hx : x = .dat (.tuple (xs.map fd))) (hy : y = .dat (.int i)) (h0 : 0 ≤ i) (h1 : i < xs.length) (f : ∀ a, a ∈ xs → xs[i.toNat]? = some a → Φ (.dat (fd a)) cs) : wpR K (gIx K) x y env cs Φ := by
  refine wv_ixT hx hy h0 (by rw [List.length_map]; exact h1) fun z hz hi => ?_
  obtain ⟨a, h3, rfl⟩ := get_map hi
  exact f a (List.mem_of_getElem? h3) h3
end
end G
namespace G
open PySem PySem.Spec PyProof.Rows L2 TL
def gSplit : V → List V → Hp → VK → Prop := fun x xs H Q => ∃ a b, x = .str a ∧ xs = [.str b] ∧ (b.length == 0) = false ∧ a.length + 2 ≤ sizeLine ∧ rNewStrs (Txt.split a b) H Q
def gLower : V → List V → Hp → VK → Prop := fun x xs H Q => ∃ a, x = .str a ∧ xs = [] ∧ a.length ≤ 5592405 ∧ Q (.str (Txt.lower a)) H
def gStarts : V → List V → Hp → VK → Prop := fun x xs H Q => ∃ a b, x = .str a ∧ xs = [.str b] ∧ Q (.bl (Txt.startswith a b)) H
def gEnds : V → List V → Hp → VK → Prop := fun x xs H Q => ∃ a b, x = .str a ∧ xs = [.str b] ∧ Q (.bl (Txt.endswith a b)) H
def gFind : V → List V → Hp → VK → Prop := fun x xs H Q => ∃ a b, x = .str a ∧ xs = [.str b] ∧ Q (.int (Txt.find a b)) H
def gIsdigit : V → List V → Hp → VK → Prop := fun x xs H Q => ∃ a, x = .str a ∧ xs = [] ∧ True ∧ Q (.bl (Txt.isdigit a)) H
section
variable {K : PySem.W.Frag} {env : G.Env} {cs : List Cell} {Φ : Vl → List Cell → Prop} {x y : Vl}
theorem rpl_strs {B : Hp} : ∀ ys : List Str, RpL K B (ys.map .str) (ys.map V.str)
  | [] => rfl
  | _ :: ys => ⟨_, _, rfl, rfl, rpl_strs ys⟩
theorem wm_split {a b : Str} (hx : x = .dat (.str a)) (hy : y = .dat (.str b)) (hb : (b.length == 0) = false) (hl : a.length ≤ 1000000) (f : Φ (.cel cs.length) (cs ++ [.lst (((Txt.split a b).map PyData.str).map .dat)])) : wpM K gSplit x [y] env cs Φ := fun F B H A σ v vs s r1 rs Q q => by
  subst hx hy
  cases rs with
  | cons r2 r3 =>
    cases r3
    exact ⟨a, b, r1, by rw [show _ = V.str b from r2], hb, Nat.le_trans (Nat.add_le_add_right hl 2) (by decide), fun p hp => q.lst s hp (RpVs.of_dats (rpl_strs _)) f⟩
theorem wm_lower {a : Str} (hx : x = .dat (.str a)) (hl : a.length ≤ 1000000) (f : Φ (.dat (.str (Txt.lower a))) cs) : wpM K gLower x [] env cs Φ := fun F B H A σ v vs s r1 rs Q q => by
  subst hx
  cases rs
  exact ⟨a, r1, rfl, Nat.le_trans hl (by decide), q.now s (x := .dat (.str (Txt.lower a))) rfl f⟩
theorem wm_isdigit {a : Str} (hx : x = .dat (.str a)) (f : Φ (.dat (.bool (Txt.isdigit a))) cs) : wpM K gIsdigit x [] env cs Φ := fun F B H A σ v vs s r1 rs Q q => by
  subst hx
  cases rs
  exact ⟨a, r1, rfl, trivial, q.now s (x := .dat (.bool (Txt.isdigit a))) rfl f⟩
theorem wm_starts {a b : Str} (hx : x = .dat (.str a)) (hy : y = .dat (.str b)) (f : Φ (.dat (.bool (Txt.startswith a b))) cs) : wpM K gStarts x [y] env cs Φ := fun F B H A σ v vs s r1 rs Q q => by
  subst hx hy
  cases rs with
  | cons r2 r3 =>
    cases r3
    exact ⟨a, b, r1, by rw [show _ = V.str b from r2], q.now s (x := .dat (.bool (Txt.startswith a b))) rfl f⟩
theorem wm_ends {a b : Str} (hx : x = .dat (.str a)) (hy : y = .dat (.str b)) (f : Φ (.dat (.bool (Txt.endswith a b))) cs) : wpM K gEnds x [y] env cs Φ := fun F B H A σ v vs s r1 rs Q q => by
  subst hx hy
  cases rs with
  | cons r2 r3 =>
    cases r3
    exact ⟨a, b, r1, by rw [show _ = V.str b from r2], q.now s (x := .dat (.bool (Txt.endswith a b))) rfl f⟩
theorem wm_find {a b : Str} (hx : x = .dat (.str a)) (hy : y = .dat (.str b)) (f : Φ (.dat (.int (Txt.find a b))) cs) : wpM K gFind x [y] env cs Φ := fun F B H A σ v vs s r1 rs Q q => by
  subst hx hy
  cases rs with
  | cons r2 r3 =>
    cases r3
    exact ⟨a, b, r1, by rw [show _ = V.str b from r2], q.now s (x := .dat (.int (Txt.find a b))) rfl f⟩
end
/-! ### texts of ASCII -/
def Asc (z : Str) : Prop := ∀ c, c ∈ tl z → c < 128
theorem lower_tl {z : Str} (h : Asc z) : tl (Txt.lower z) = (tl z).map PyProof.Rows.lo1 := by
  rw [PyProof.Rows.lower_ascii h]
  show (z.cps.map PyProof.Rows.lo1).toList = _
  rw [Array.toList_map]
theorem lower_len {z : Str} (h : Asc z) : (Txt.lower z).length = z.length := by
  rw [len_tl, lower_tl h, List.length_map, ← len_tl]
/-! ### heads plainly -/
/-! ### small data -/
mutual
def SmD : D → Prop
  | .str z => z.length ≤ 1000000
  | .list ds => ds.length ≤ 100000 ∧ SmAll ds
  | .tuple ds => ds.length ≤ 100000 ∧ SmAll ds
  | _ => True
def SmAll : List D → Prop
  | [] => True
  | d :: r => SmD d ∧ SmAll r
end
theorem SmAll.mem : ∀ {ds : List D}, SmAll ds → ∀ d, d ∈ ds → SmD d
  | [], _, _, h => by cases h
  | e :: r, h, d, hd => by
    have h' : SmD e ∧ SmAll r := h
    rcases List.mem_cons.mp hd with x | x
    · rw [x]
      exact h'.1
    · exact SmAll.mem h'.2 d x
theorem SmAll.of : ∀ {ds : List D}, (∀ d, d ∈ ds → SmD d) → SmAll ds
  | [], _ => trivial
  | e :: r, h => ⟨h e (List.mem_cons_self ..), SmAll.of fun d hd => h d (List.mem_cons_of_mem _ hd)⟩
/-! ### letters -/
def isHead : D → Bool
  | .str z => decide (z.length ≤ 60) && (tl z).all fun c => decide (32 ≤ c) && decide (c ≤ 126)
  | _ => false
/-! ### texts repeated, tuples repeated -/
theorem foldl_app (xs : List Nat) : ∀ (m : Nat) (a : Array Nat), ((List.replicate m xs.toArray).foldl (· ++ ·) a).toList = a.toList ++ (List.replicate m xs).flatten
  | 0, a => by simp
  | m + 1, a => by
    rw [List.replicate_succ, List.foldl_cons, foldl_app xs m, List.replicate_succ, List.flatten_cons, Array.toList_append, List.append_assoc]
theorem tl_mul (x : Str) (n : Int) : tl (Txt.mul x n) = (List.replicate n.toNat (tl x)).flatten := by
  unfold Txt.mul
  by_cases h1 : n < 1
  · rw [if_pos h1, show n.toNat = 0 by omega]
    rfl
  · rw [if_neg h1]
    by_cases h2 : (n == 1 || x.length == 0) = true
    · rw [if_pos h2]
      rcases Bool.or_eq_true _ _ ▸ h2 with h | h
      · have e : n = 1 := eq_of_beq h
        rw [e]
        simp
      · have e : x.length = 0 := eq_of_beq h
        rw [len0_tl] at e
        rw [e]
        generalize n.toNat = m
        induction m with
        | zero => rfl
        | succ m ih => rw [List.replicate_succ, List.flatten_cons, ← ih]; rfl
    · rw [if_neg h2]
      have := foldl_app (tl x) n.toNat #[]
      rw [show (tl x).toArray = x.cps from Array.toArray_toList ..] at this
      simpa using this
theorem mul_len (x : Str) (n : Int) : (Txt.mul x n).length = n.toNat * x.length := by
  rw [len_tl, tl_mul, len_tl]
  generalize n.toNat = m
  induction m with
  | zero => simp
  | succ m ih => rw [List.replicate_succ, List.flatten_cons, List.length_append, ih, Nat.succ_mul, Nat.add_comm]
section
variable {K : PySem.W.Frag} {env : G.Env} {cs : List Cell} {Φ : Vl → List Cell → Prop} {x y : Vl}
theorem wv_mulS {a : Str} {n : Int} (hx : x = .dat (.str a)) (hy : y = .dat (.int n)) (h0 : a.length ≤ 1000) (h1 : -1000000 ≤ n) (h2 : n ≤ 1000) (f : (Txt.mul a n).length = n.toNat * a.length → Φ (.dat (.str (Txt.mul a n))) cs) : wpR K (gMul K) x y env cs Φ := fun F B H A σ v w s r1 r2 Q q => by
  subst hx hy
  exact .inr (.inr (.inr ⟨a, n, r1, r2, h0, h1, h2, q.now s (x := .dat (.str (Txt.mul a n))) rfl (f (mul_len a n))⟩))
end
theorem wv_mulS1 {K : PySem.W.Frag} {env : G.Env} {cs : List Cell} {Φ : Vl → List Cell → Prop} {x y : Vl} {a : Str} {n : Int} (hx : x = .dat (.str a)) (hy : y = .dat (.int n)) (h0 : a.length = 1) (h1 : -1000000 ≤ n) (h2 : n ≤ 1000) (f : (Txt.mul a n).length = n.toNat → Φ (.dat (.str (Txt.mul a n))) cs) : wpR K (gMul K) x y env cs Φ :=
  wv_mulS hx hy (by omega) h1 h2 fun h => f (by rw [h, h0, Nat.mul_one])
/-! ### data of the laws' generators -/
def Sg (c : Nat) : Prop := (32 ≤ c ∧ c ≤ 126) ∨ c = 10
def SgT (z : Str) : Prop := ∀ c, c ∈ tl z → Sg c
mutual
def Gd : D → Prop
  | .str z => z.length ≤ 100000 ∧ SgT z
  | .int _ => True
  | .list ds => ds.length ≤ 1000 ∧ GdAll ds
  | .tuple ds => ds.length ≤ 1000 ∧ GdAll ds
  | _ => False
def GdAll : List D → Prop
  | [] => True
  | d :: r => Gd d ∧ GdAll r
end
theorem GdAll.mem : ∀ {ds : List D}, GdAll ds → ∀ d, d ∈ ds → Gd d
  | [], _, _, h => by cases h
  | e :: r, h, d, hd => by
    have h' : Gd e ∧ GdAll r := h
    rcases List.mem_cons.mp hd with x | x
    · rw [x]
      exact h'.1
    · exact GdAll.mem h'.2 d x
theorem GdAll.of : ∀ {ds : List D}, (∀ d, d ∈ ds → Gd d) → GdAll ds
  | [], _ => trivial
  | e :: r, h => ⟨h e (List.mem_cons_self ..), GdAll.of fun d hd => h d (List.mem_cons_of_mem _ hd)⟩
mutual
theorem Gd.plain : ∀ d : D, Gd d → d.plain = true
  | .none, _ => rfl
  | .bool _, _ => rfl
  | .int _, _ => rfl
  | .str _, _ => rfl
  | .list ds, h => by
    rw [PyData.plain]
    exact GdAll.plain ds h.2
  | .tuple ds, h => by
    rw [PyData.plain]
    exact GdAll.plain ds h.2
  | .dict _, h => h.elim
theorem GdAll.plain : ∀ ds : List D, GdAll ds → PyData.plainAll ds = true
  | [], _ => rfl
  | d :: r, h => by
    rw [PyData.plainAll, Gd.plain d h.1, GdAll.plain r h.2]
    rfl
end
section
variable {K : PySem.W.Frag} {env : G.Env} {cs : List Cell} {Φ : Vl → List Cell → Prop} {x y : Vl} {te to ti : TE}
/-- a new list is from now on data -/
theorem we_fz (h : wpE K te env cs fun x c => ∃ (k : Nat) (es : List D), x = .cel k ∧ cs.length ≤ k ∧ c[k]? = some (.lst (es.map .dat)) ∧ CsB cs.length (c.take cs.length) ∧ Φ (.dat (.list es)) (c.take cs.length)) : wpE K te env cs Φ := fun F B H A σ s Q q =>
  h F B H A σ s Q fun x c v B' H' A' ⟨k, es, e1, hk, hc, hb, f⟩ e p s' r => by
    subst e1
    obtain ⟨a, hA, rfl⟩ := r
    obtain ⟨ws, hw, hrw, s7, e7⟩ := s'.fz hA hc hk hb (RpOs.mono e (p.take (Nat.le_of_eq s.la)) s.sl)
    exact q (.dat (.list es)) (c.take cs.length) (.ref a) _ H' (A'.take cs.length) f (e.trans e7) (p.take (Nat.le_of_eq s.la)) s7 ⟨a, ws, rfl, SqL.of upd_same, hrw.mono e7⟩
theorem wv_slTm {α : Type} {fd : α → D} {xs : List α} {lo hi : Option Int} (hx : x = .dat (.tuple (xs.map fd))) (f : Φ (.dat (.tuple ((cutD xs lo hi).map fd))) cs) : wpX K (gSl K) x lo hi env cs Φ :=
  wu_slT hx (by rw [cutD_map]; exact f)
end
end G
namespace G
open PySem PySem.Spec PyProof.Rows L2 TL
/-- sorted of a list of data -/
def gSorted (K : PySem.W.Frag) : List V → Hp → VK → Prop := fun vs H Q => ∃ (p : Addr) (bs : List (V × D)), vs = [.ref p] ∧ SqL K H p (bs.map (·.1)) ∧ (∀ b, b ∈ bs → Rp K H b.2 b.1 ∧ b.2.plain = true ∧ b.2.depth ≤ 60) ∧
  PySem.W.AllAlike (bs.map (·.2)) ∧ PySem.W.Sortable (bs.map (·.2)) ∧ ∀ q, H q = none → Q (.ref q) (upd H q (.lst ((bs.mergeSort (PySem.W.dataLe false (·.2))).map (·.1))))
section
variable {X : Cx} {K : PySem.W.Frag}
theorem each_vals : ∀ {bs : List (V × D)} {us : List Value}, Vals (bs.map (·.1)) us → PySem.W.EachIs (fun v (b : V × D) => RelV b.1 v) us bs
  | [], _, r => by
    cases r
    exact .nil
  | b :: bs, _, r => by
    cases r with
    | cons r1 r2 => exact .cons r1 (each_vals r2)
theorem vals_each : ∀ {bs : List (V × D)} {us : List Value}, PySem.W.EachIs (fun v (b : V × D) => RelV b.1 v) us bs → Vals (bs.map (·.1)) us
  | _, _, .nil => .nil
  | _, _, .cons h t => .cons h (vals_each t)
theorem each_and {α β : Type} {R R' : α → β → Prop} : ∀ {us : List α} {bs : List β}, PySem.W.EachIs R us bs → (∀ u b, b ∈ bs → R u b → R' u b) → PySem.W.EachIs R' us bs
  | _, _, .nil, _ => .nil
  | _, _, .cons h t, k => .cons (k _ _ (List.mem_cons_self ..) h) (each_and t fun u b hb => k u b (List.mem_cons_of_mem _ hb))
theorem kc_sorted (hK : X.K = K) (hu : X.A.units + 64 < cLine) : CallR X (.builtin "sorted") (gSorted K) := by
  subst hK
  intro pins s σ H vs us Q I r h
  obtain ⟨p, bs, rfl, hs, hb, hal, hk, q⟩ := h
  obtain ⟨its, rv, hl, hz⟩ := I.list hs
  rw [Vals.ref1 r]
  have e := each_vals rv
  have hlen := rv.length
  rw [List.length_map] at hlen
  refine PySem.W.sorted_data (enc := fun b : V × D => b.2) hl.isList e (each_and e fun u b hm hr => Rp.reads I b.2 b.1 u (hb b hm).2.1 (hb b hm).1 hr) hal hk (by rw [List.length_map] at hz; exact hz) (fun b hm => by have := (hb b hm).2.2; omega) fun out ho eo => ?_
  obtain ⟨ep, he'⟩ := PyProof.Rows.sortedAll_at s.heap its out.toArray
  refine ⟨.ref _, upd H (s.heap.objs.size + 1) (.lst ((bs.mergeSort (PySem.W.dataLe false (·.2))).map (·.1))), I.laid (t' := s.toks) (fun _ _ => PyProof.Rows.sortedAll_old) (Nat.le_succ _) ⟨?_, out, ep, vals_each eo, ?_⟩, rfl, q _ (I.hok.fresh (Nat.le_succ _))⟩
  · rw [List.length_map, List.length_mergeSort]
    rw [List.length_map] at hz
    exact hz
  · simpa using he'
end
section
variable {K : PySem.W.Frag} {env : G.Env} {cs : List Cell} {Φ : Vl → List Cell → Prop} {x y : Vl}
theorem zip_fst : ∀ {ds : List D} {vs : List V}, vs.length = ds.length → (vs.zip ds).map (·.1) = vs
  | [], [], _ => rfl
  | [], _ :: _, h => by cases h
  | _ :: _, [], h => by cases h
  | d :: ds, v :: vs, h => by
    rw [List.zip_cons_cons, List.map_cons, zip_fst (Nat.succ.inj h)]
theorem zip_snd : ∀ {ds : List D} {vs : List V}, vs.length = ds.length → (vs.zip ds).map (·.2) = ds
  | [], [], _ => rfl
  | [], _ :: _, h => by cases h
  | _ :: _, [], h => by cases h
  | d :: ds, v :: vs, h => by
    rw [List.zip_cons_cons, List.map_cons, zip_snd (Nat.succ.inj h)]
theorem rpl_zip {B : Hp} : ∀ {ds : List D} {vs : List V}, RpL K B ds vs → ∀ b, b ∈ vs.zip ds → Rp K B b.2 b.1
  | [], vs, r, b, hb => by
    rw [List.zip_nil_right] at hb
    cases hb
  | d :: ds, vs, r, b, hb => by
    obtain ⟨v, ws, rfl, h1, h2⟩ := r
    rw [List.zip_cons_cons] at hb
    rcases List.mem_cons.mp hb with e | hb
    · rw [e]
      exact h1
    · exact rpl_zip h2 b hb
theorem rpl_pairs {B : Hp} : ∀ {bs : List (V × D)}, (∀ b, b ∈ bs → Rp K B b.2 b.1) → RpL K B (bs.map (·.2)) (bs.map (·.1))
  | [], _ => rfl
  | b :: bs, h => ⟨_, _, rfl, h b (List.mem_cons_self ..), rpl_pairs fun c hc => h c (List.mem_cons_of_mem _ hc)⟩
def sortD (ds : List D) : List D := ds.mergeSort (PySem.W.dataLe false id)
theorem wc_sorted {ds : List D} (hx : DatOf cs x (.list ds)) (hp : ∀ d, d ∈ ds → d.plain = true ∧ d.depth ≤ 60) (hal : PySem.W.AllAlike ds) (hk : PySem.W.Sortable ds) (f : Φ (.cel cs.length) (cs ++ [.lst ((sortD ds).map .dat)])) : wpC K (gSorted K) [x] env cs Φ := fun F B H A σ vs s r Q q => by
  cases r with
  | cons r1 r2 =>
    cases r2
    obtain ⟨a, rfl, g⟩ := s.seqL r1 hx
    obtain ⟨ws, h1, h2⟩ := g F B H A env cs σ (fun _ _ h => h) (fun _ _ h => h) s hx
    have hl : ws.length = ds.length := h2.length
    have e1 := zip_fst hl
    have e2 := zip_snd hl
    have hB := rpl_zip h2
    refine ⟨a, ws.zip ds, rfl, by rw [e1]; exact h1, fun b hb => ⟨Rp.mono s.eb (hB b hb), ?_⟩, by rw [e2]; exact hal, by rw [e2]; exact hk, fun p hp2 => q.lst s hp2 (RpVs.of_dats (ds := sortD ds) ?_) f⟩
    · have : b.2 ∈ ds := by
        have h3 : b.2 ∈ (ws.zip ds).map (fun z : V × D => z.2) := List.mem_map.mpr ⟨b, hb, rfl⟩
        rw [e2] at h3
        exact h3
      exact hp _ this
    · have e3 : sortD ds = ((ws.zip ds).mergeSort (PySem.W.dataLe false (·.2))).map (·.2) := by
        unfold sortD
        have h4 := List.map_mergeSort (f := fun z : V × D => z.2) (r := PySem.W.dataLe false (fun z : V × D => z.2)) (s := PySem.W.dataLe false id) (l := ws.zip ds) (fun _ _ _ _ => rfl)
        rw [h4, e2]
      rw [e3]
      exact rpl_pairs fun b hb => hB b (List.mem_mergeSort.mp hb)
end
/-! ### the order of data -/
theorem le_trans3 (a b c : D) (h1 : PySem.W.dataLe false id a b = true) (h2 : PySem.W.dataLe false id b c = true) : PySem.W.dataLe false id a c = true := by
  have e : ∀ x y : D, PySem.W.dataLe false id x y = !PySem.W.dataLt y x := fun _ _ => rfl
  rw [e, Bool.not_eq_true'] at h1 h2 ⊢
  cases h : PySem.W.dataLt c a with
  | false => rfl
  | true =>
    rcases PyProof.Rows.lex_negTrans _ (PySem.W.keyToks b) _ h with g | g
    · have g' : PySem.W.dataLt c b = true := g
      rw [h2] at g'
      cases g'
    · have g' : PySem.W.dataLt b a = true := g
      rw [h1] at g'
      cases g'
theorem le_total2 (a b : D) : (PySem.W.dataLe false id a b || PySem.W.dataLe false id b a) = true := by
  have e : ∀ x y : D, PySem.W.dataLe false id x y = !PySem.W.dataLt y x := fun _ _ => rfl
  rw [e, e]
  cases h1 : PySem.W.dataLt b a with
  | false => rfl
  | true =>
    cases h2 : PySem.W.dataLt a b with
    | false => rfl
    | true =>
      have := PyProof.Rows.lex_trans _ _ _ h1 h2
      rw [PyProof.Rows.lex_irrefl] at this
      cases this
theorem sortD_sorted (ds : List D) : (sortD ds).Pairwise fun a b => PySem.W.dataLt b a = false :=
  (List.pairwise_mergeSort le_trans3 le_total2 ds).imp fun {a b} h => by
    have h' : (!PySem.W.dataLt b a) = true := h
    rwa [Bool.not_eq_true'] at h'
theorem sortD_mem {ds : List D} {d : D} : d ∈ sortD ds ↔ d ∈ ds := List.mem_mergeSort
theorem sortD_perm (ds : List D) : (sortD ds).Perm ds := List.mergeSort_perm ..
theorem lt_of_not {a b : D} (ha : PySem.W.alike a b = true) (h : PySem.W.dataLt b a = false) (he : PyData.eqv a b = false) : PySem.W.dataLt a b = true := by
  cases h2 : PySem.W.dataLt a b with
  | true => rfl
  | false =>
    have e := PyProof.Rows.lex_total _ _ h2 h
    have k := (PySem.W.toks_eqv a b ha).2 he
    have k1 := k [] [.inl 0]
    rw [e, List.append_nil] at k1
    have k2 := PySem.W.lex_pre (PySem.W.keyToks b) [] [.inl 0]
    rw [List.append_nil] at k2
    rw [k2, PyProof.Rows.lex_irrefl] at k1
    exact absurd k1 (by decide)
theorem sortD_rise {ds : List D} (hal : PySem.W.AllAlike ds) (hd : ds.Pairwise fun a b => PyData.eqv a b = false) : (sortD ds).Pairwise fun a b => PySem.W.dataLt a b = true := by
  have h1 := sortD_sorted ds
  have h2 : (sortD ds).Pairwise fun a b => PyData.eqv a b = false := ((sortD_perm ds).pairwise_iff fun {x y} h => by rw [PySem.W.eqv_comm]; exact h).mpr hd
  refine (h1.and h2).imp_of_mem fun {a b} ha hb h => lt_of_not (hal a (sortD_mem.mp ha) b (sortD_mem.mp hb)) h.1 h.2
end G
/-! t[::-1] of a tuple; xs[::-1] of a list -/
namespace HT
open PySem PySem.Spec PyProof.Rows PySem.W L2
variable {prog : Program} {w : World} {A : Around} {E : Value → Shared → Prop} {s : Shared}
theorem sliceApplied_rev {sl : Addr} {vl vu vs : Value} {n : Nat} {Q : Int × Int × Nat → Shared → Prop} (hs : s.heap.IsSliceOf sl vl vu vs) (pl : IsPart vl none) (pu : IsPart vu none) (ps : IsPart vs (some (-1)))
    (h : Q ((n : Int) - 1, -1, n) s) : wpAny (model prog w) A (Builtin.Slice.sliceApplied (.ref sl) (pure (n : Int))) Q E s := by
  obtain ⟨os, hos, hcs, hds⟩ := id hs
  unfold Builtin.Slice.sliceApplied Builtin.Slice.sliceFields
  refine wpAny_bind (wpAny_bind (wpAny_field hos hds (x := vl) rfl (wpAny_bind (wpAny_field hos hds (x := vu) rfl (wpAny_bind (wpAny_field hos hds (x := vs) rfl (wpAny_pure ?_)))))))
  refine wpAny_bind (slicePart_ ps ?_)
  show wpAny _ _ (if ((-1 : Int) == 0) = true then _ else _) _ _ s
  rw [if_neg (by decide)]
  refine wpAny_bind (slicePart_ pl (wpAny_bind (slicePart_ pu (wpAny_bind (wpAny_pure ?_)))))
  have e : Builtin.Slice.slicePlaces ((n : Int) - 1) (-1) (-1) = n := by
    unfold Builtin.Slice.slicePlaces
    have h1 : ¬ ((-1 : Int) > 0) := by decide
    simp only [h1, if_false]
    have h2 : (-(-1) : Int) = 1 := by decide
    rw [h2, Int.ediv_one]
    split <;> omega
  show wpAny _ _ (pure ((n : Int) - 1, (-1 : Int), Builtin.Slice.slicePlaces ((n : Int) - 1) (-1) (-1))) _ _ s
  rw [e]
  exact wpAny_pure h
theorem fm_congr {α β : Type} {f g : α → Option β} : ∀ (l : List α), (∀ m, m ∈ l → f m = g m) → l.filterMap f = l.filterMap g
  | [], _ => rfl
  | x :: l, h => by
    rw [List.filterMap_cons, List.filterMap_cons, h x (List.mem_cons_self ..), fm_congr l fun m hm => h m (List.mem_cons_of_mem _ hm)]
theorem pick_rev (xs : Array Value) : ((List.range xs.size).filterMap fun (m : Nat) => xs[(((xs.size : Nat) : Int) - 1 + (m : Int) * (-1)).toNat]?).toArray = xs.toList.reverse.toArray := by
  congr 1
  have e : (List.range xs.size).filterMap (fun (m : Nat) => xs[(((xs.size : Nat) : Int) - 1 + (m : Int) * (-1)).toNat]?) = (List.range xs.size).filterMap fun m => xs[xs.size - 1 - m]? := by
    refine fm_congr _ fun m hm => ?_
    have := List.mem_range.mp hm
    congr 1
    omega
  rw [e]
  have h1 := krv_range xs.size
  have h2 : (List.range xs.size).filterMap (fun m => xs[xs.size - 1 - m]?) = ((List.range xs.size).map fun k => xs.size - 1 - k).filterMap (xs[·]?) := by
    rw [List.filterMap_map]
    rfl
  rw [h2, h1, List.filterMap_reverse, krv_all]
theorem getItem_tuple_rev {t sl : Addr} {items : Array Value} {vl vu vs : Value} {Q : Value → Shared → Prop} (ht : IsTup s.heap t items) (hs : s.heap.IsSliceOf sl vl vu vs) (pl : IsPart vl none) (pu : IsPart vu none) (ps : IsPart vs (some (-1)))
    (h : Q (.ref s.heap.objs.size) { s with heap := s.heap.push { cls := .type "tuple", data := .seq items.toList.reverse.toArray } })
    (hsz : items.size ≤ sizeLine) : wpAny (model prog w) A (getItem (.ref t) (.ref sl)) Q E s := by
  have htake : sizeOk (.seq items.toList.reverse.toArray) := by
    show items.toList.reverse.toArray.size ≤ sizeLine
    rw [List.size_toArray, List.length_reverse, Array.length_toList]
    exact hsz
  obtain ⟨os, hos, hcs, hds⟩ := id hs
  have hTs : s.TypeIs (.ref sl) "slice" := ⟨os, hos, hcs⟩
  unfold getItem
  try with_reducible refine wpAny_holding ?_
  first | refine wpAny_bind (wpAny_pure ?_) | skip
  refine wpAny_bind (wpAny_sequenceKey ht.typeIs (by decide) ?_)
  refine wpAny_bind (wpAny_callSpecial?_slot (name := Str.ofString "__getitem__") ht.typeIs PyProof.Rows.slot_tuple_getitem
    (wpAny_call_entry PyProof.Rows.slot_tuple_getitem ht.typeIs entry_tuple_getitem ?_ (args_tuple_getitem _ _)))
  show wpAny _ _ (Builtin.Tuple.tupleItemsOf (.ref t) >>= _) _ _ s
  refine wpAny_bind (tupleItemsOf_ ht ?_)
  refine wpAny_bind (wpAny_typeOf hTs ?_)
  rw [if_pos (by decide)]
  refine wpAny_bind (sliceApplied_rev hs pl pu ps ?_)
  have hno : ¬ (((((items.size : Nat) : Int) - 1) == 0 && (-1 : Int) == 1 && items.size == items.size) = true) := by
    rw [show ((-1 : Int) == 1) = false from by decide, Bool.and_false, Bool.false_and]
    exact Bool.false_ne_true
  show wpAny _ _ (if ((((items.size : Nat) : Int) - 1) == 0 && (-1 : Int) == 1 && items.size == items.size) = true then _ else _) _ _ s
  rw [if_neg hno, pick_rev]
  first
    | exact wpAny_bind (m := Builtin.Tuple.tupleExact _) (wpAny_newObj_type (wpAny_pure ⟨_, rfl, wpAny_pure h⟩) htake)
    | exact wpAny_bind (m := Builtin.Tuple.tupleExact _) (wpAny_newObj_type (wpAny_bind (wpAny_pure (wpAny_pure ⟨_, rfl, wpAny_pure h⟩))) htake)
    | exact wpAny_bind (wpAny_bind (m := Builtin.Tuple.tupleExact _) (wpAny_newObj_type (wpAny_pure (wpAny_pure ⟨_, rfl, wpAny_pure h⟩)) htake))
    | exact wpAny_bind (wpAny_bind (m := Builtin.Tuple.tupleExact _) (wpAny_newObj_type (wpAny_pure ⟨_, rfl, wpAny_pure h⟩) htake))
end HT
namespace G
open PySem PySem.Spec PyProof.Rows L2 TL
section
variable {P : Program} {w : World} {X : Cx} {K : PySem.W.Frag} {env : G.Env} {cs : List Cell} {te : TE} {Φ : Vl → List Cell → Prop}
/-- a sequence turned about -/
def rRevA (K : PySem.W.Frag) : V → Hp → VK → Prop := fun x H Q => ∃ a xs, x = .ref a ∧ ((SqL K H a xs ∧ ∀ p, H p = none → Q (.ref p) (upd H p (.lst xs.reverse))) ∨ (SqT K H a xs ∧ ∀ p, H p = none → Q (.ref p) (upd H p (.tup xs.reverse))))
theorem pe_revA {e : Expr} {te : TE} {k : Nat} {p1 p2 p3 pos : Pos} (hK : X.K = K) (he : PE X e te) : PE X (.Subscript e (.Slice none none (some (.UnaryOp .USub (.Constant (.int 1) k p1) p2)) p3) pos) (tUn (rRevA K) te) := by
  subst hK
  refine ⟨fun pins s σ H Q I h => ?_⟩
  refine Subscript_ (thn (he.run pins s σ H _ I h) fun v s1 ⟨x, H1, I1, r1, q1⟩ => ?_)
  obtain ⟨a, xs, ex, q⟩ := q1
  subst ex
  cases r1
  have hst : PO X (some (.UnaryOp .USub (.Constant (.int 1) k p1) p2)) (tPart (tUn (rU fun i => .int (-i)) (tC (.int 1)))) := po_some (pe_un un_neg pe_int)
  refine wpAny_Slice (thn (po_none.run pins s1 σ H1 (fun o H2 => o = none ∧ H2 = H1) I1 ⟨rfl, rfl⟩) fun vl s2 ⟨l, H2, I2, pl, el, e2⟩ => ?_)
  subst el e2
  refine thn (po_none.run pins s2 σ H2 (fun o H3 => o = none ∧ H3 = H2) I2 ⟨rfl, rfl⟩) fun vu s3 ⟨u, H3, I3, pu, eu, e3⟩ => ?_
  subst eu e3
  refine thn (hst.run pins s3 σ H3 (fun o H4 => o = some (-1) ∧ H4 = H3) I3 ⟨1, rfl, -1, rfl, rfl, rfl⟩) fun vs s4 ⟨o, H4, I4, ps, eo, e4⟩ => ?_
  subst eo e4
  have I5 : Inv X pins σ H4 { s4 with heap := s4.heap.push { cls := .type "slice", data := .fields #[vl, vu, vs] } } := I4.kept (t' := s4.toks) fun b ob q => Heap.get?_push_of_some _ q
  rcases q with ⟨hx, q⟩ | ⟨hx, q⟩
  · obtain ⟨its, r, ht, hz⟩ := I5.list hx
    have hlen := r.length
    show wpAny (model X.prog X.w) X.A (subscriptTail e (.Slice none none (some (.UnaryOp .USub (.Constant (.int 1) k p1) p2)) p3) (.ref a) (.ref s4.heap.objs.size)) (EP X pins σ Q) X.xe { s4 with heap := s4.heap.push { cls := .type "slice", data := .fields #[vl, vu, vs] } }
    refine tail_any (ops := [.ref a, .ref s4.heap.objs.size]) ht.isList.typeIs (PySem.slot_list_getitem.lookup) ?_ (by with_unfolding_all rfl)
    refine wpAny_getItem_list_slice ht.isList (Heap.IsSliceOf.new _ vl vu vs) pl pu ps (by decide) ?_ (by rw [List.size_toArray]; omega)
    rw [PySem.W.krv_pick]
    refine ⟨.ref _, _, I5.laid (t' := s4.toks) (o := .lst xs.reverse) (fun b ob q => Heap.get?_push_of_some _ q) (Nat.le_refl _) ?_, rfl, q _ (I5.hok.fresh (Nat.le_refl _))⟩
    exact ⟨by rw [List.length_reverse]; exact hz, _, 0, r.reverse, Heap.get?_push_size _ rfl⟩
  · obtain ⟨its, r, ht, hz⟩ := I5.tuple hx
    have hlen : its.toArray.size = xs.length := by rw [List.size_toArray]; exact r.length.symm
    show wpAny (model X.prog X.w) X.A (subscriptTail e (.Slice none none (some (.UnaryOp .USub (.Constant (.int 1) k p1) p2)) p3) (.ref a) (.ref s4.heap.objs.size)) (EP X pins σ Q) X.xe { s4 with heap := s4.heap.push { cls := .type "slice", data := .fields #[vl, vu, vs] } }
    refine tail_any (ops := [.ref a, .ref s4.heap.objs.size]) ht.typeIs (PyProof.Rows.slot_tuple_getitem.lookup) ?_ (by with_unfolding_all rfl)
    refine HT.getItem_tuple_rev ht (Heap.IsSliceOf.new _ vl vu vs) pl pu ps ?_ (by rw [hlen]; exact hz)
    refine ⟨.ref _, _, I5.laid (t' := s4.toks) (o := .tup xs.reverse) (fun b ob q => Heap.get?_push_of_some _ q) (Nat.le_refl _) ?_, rfl, q _ (I5.hok.fresh (Nat.le_refl _))⟩
    exact ⟨by rw [List.length_reverse]; exact hz, _, r.reverse, IsTup.new _ _⟩
theorem RpL.rev {B : Hp} : ∀ {ds : List D} {vs : List V}, RpL K B ds vs → RpL K B ds.reverse vs.reverse
  | [], vs, h => by
    rw [show vs = [] from h]
    exact rfl
  | d :: ds, vs, ⟨v, r, e, h1, h2⟩ => by
    rw [e, List.reverse_cons, List.reverse_cons]
    exact RpL.append (RpL.rev h2) ⟨v, [], rfl, h1, rfl⟩
theorem wv_revT {x : Vl} {ds : List D} (hx : x = .dat (.tuple ds)) (f : Φ (.dat (.tuple ds.reverse)) cs) : wpU K (rRevA K) x env cs Φ := fun F B H A σ v s r1 Q q => by
  subst hx
  obtain ⟨a, vs, rfl, hs, hr⟩ := r1
  exact ⟨a, vs, rfl, .inr ⟨sqT_mono s.eb hs, fun p hp => q.tup s hp (RpL.rev hr) f⟩⟩
theorem wv_revL {x : Vl} {ds : List D} (hx : DatOf cs x (.list ds)) (f : Φ (.cel cs.length) (cs ++ [.lst (ds.reverse.map .dat)])) : wpU K (rRevA K) x env cs Φ := fun F B H A σ v s r1 Q q => by
  rcases hx with rfl | ⟨k, es, rfl, hc, e⟩
  · obtain ⟨a, vs, rfl, hs, hr⟩ := r1
    exact ⟨a, vs, rfl, .inl ⟨sqL_mono s.eb hs, fun p hp => q.lst s hp (RpVs.of_dats (RpL.rev hr)) f⟩⟩
  · cases e
    obtain ⟨a, ha, rfl⟩ := r1
    obtain ⟨vs, hs, hr⟩ := s.ch k a _ ha hc
    exact ⟨a, vs, rfl, .inl ⟨SqL.of hs, fun p hp => q.lst s hp (RpVs.of_dats (RpL.rev (RpVs.dats hr))) f⟩⟩
end
end G
/-! a state with a counter: what a def may add to it -/
namespace G
open PySem PySem.Spec PyProof.Rows L2 TL
section
variable {K : PySem.W.Frag} {env : G.Env} {cs : List Cell} {Φ : Vl → List Cell → Prop} {te tl : TE} {tt : TT} {g : TG} {ti : TI} {vs : List Nat} {ta tr : TA}
/-- a comprehension: what holds of each item, and what holds of the cells after i of them -/
theorem we_lcJ (go : GO g vs) (P : D → Prop) (I : Nat → List Cell → Prop) (h : wpI K ti env cs fun ds keep c => ds.length ≤ 10000000 ∧ I 0 c ∧ (∀ i c', I i c' → keep c' ∧ c'.length = c.length) ∧
      (∀ i d c', ds[i]? = some d → I i c' → wpG K g (.dat d) (wipeE env vs) c' fun e c2 => wpT K tt e c2 fun b c3 => b = true ∧ wpE K te e c3 fun y c4 => FzTo c.length y c4 fun d' c5 => P d' ∧ I (i + 1) c5) ∧
      (∀ (es : List D) (c' : List Cell), es.length = ds.length → (∀ e, e ∈ es → P e) → I ds.length c' → Φ (.cel c'.length) (c' ++ [.lst (es.map .dat)]))) : wpE K (tLc ti g tt te vs) env cs Φ := we_lc go (h.mono fun ds keep c f => by
    obtain ⟨hn, h0, hk, ht, hf⟩ := f
    refine ⟨hn, fun i c' acc => I i c' ∧ acc.length = i ∧ ∀ e, e ∈ acc → P e, ⟨h0, rfl, fun e h => by cases h⟩, ?_, ?_, ?_⟩
    · rintro i c' acc _ ⟨hI, _⟩
      exact hk i c' hI
    · rintro i d c' acc hd ⟨hI, hl, hP⟩
      refine wpG.mono (ht i d c' hd hI) fun e c2 q => wpT.mono q fun b c3 ⟨e1, q2⟩ => ⟨fun _ => wpE.mono q2 fun y c4 q3 => ?_, fun h => ?_⟩
      · rcases q3 with ⟨d', e2, e3, p1, p2⟩ | ⟨hb, ⟨d', e2, p1, p2⟩ | ⟨k, es, e2, e3, e4, p1, p2⟩⟩
        · exact .inl ⟨d', e2, e3, p2, by rw [List.length_append, hl]; rfl, fun e he => (List.mem_append.mp he).elim (hP e) fun h => by rw [List.mem_singleton.mp h]; exact p1⟩
        · exact .inr ⟨hb, .inl ⟨d', e2, p2, by rw [List.length_append, hl]; rfl, fun e he => (List.mem_append.mp he).elim (hP e) fun h => by rw [List.mem_singleton.mp h]; exact p1⟩⟩
        · exact .inr ⟨hb, .inr ⟨k, es, e2, e3, e4, p2, by rw [List.length_append, hl]; rfl, fun e he => (List.mem_append.mp he).elim (hP e) fun h => by rw [List.mem_singleton.mp h]; exact p1⟩⟩
      · rw [e1] at h
        cases h
    · rintro c' acc ⟨hI, hl, hP⟩
      rw [← hl] at hI
      exact hf acc c' hl hP (hl ▸ hI))
theorem wpA.mono {Φ Ψ : List Vl → List Cell → Prop} (h : wpA K ta env cs Φ) (k : ∀ xs c, Φ xs c → Ψ xs c) : wpA K ta env cs Ψ := fun F B H A σ s Q q => h F B H A σ s Q fun xs c vs B' H' A' f => q xs c vs B' H' A' (k xs c f)
theorem wpA.csb {Φ : List Vl → List Cell → Prop} (h : wpA K ta env cs Φ) : wpA K ta env cs fun xs c => CsB c.length c ∧ Φ xs c := fun F B H A σ s Q q => h F B H A σ s Q fun xs c vs B' H' A' f e p s' r => q xs c vs B' H' A' ⟨s'.csb, f⟩ e p s' r
/-- a list of data that nobody changes -/
theorem we_lstF (h : wpA K ta env cs fun xs c1 => c1.length = cs.length ∧ ∃ es, datsOf xs = some es ∧ es.length ≤ 100000 ∧ Φ (.dat (.list es)) c1) : wpE K (tLst ta) env cs Φ :=
  we_fz (we_lst (wpA.mono h.csb fun xs c1 ⟨hb, e, es, e1, hl, f⟩ => by
    have e2 := datsOf_eq e1
    refine ⟨by rw [e2, List.length_map]; exact hl, c1.length, es, rfl, Nat.le_of_eq e.symm, ?_, ?_, ?_⟩
    · rw [e2, List.getElem?_append_right (Nat.le_refl _), Nat.sub_self]
      rfl
    · rw [List.take_left' e, ← e]
      exact hb
    · rw [List.take_left' e]
      exact f))
theorem wa_lst {Φ : List Vl → List Cell → Prop} (h : wpA K ta env cs fun xs c1 => c1.length = cs.length ∧ ∃ es, datsOf xs = some es ∧ es.length ≤ 100000 ∧ wpA K tr env c1 fun ys c2 => Φ (.dat (.list es) :: ys) c2) : wpA K (tCons (tLst ta) tr) env cs Φ :=
  wa_cons (we_lstF h)
/-- an item of a list written there -/
theorem we_ixF {tb : TE} (h : wpA K ta env cs fun xs c1 => c1.length = cs.length ∧ ∃ es, datsOf xs = some es ∧ es.length ≤ 100000 ∧ wpE K tb env c1 fun y c2 => wpR K (gIx K) (.dat (.list es)) y env c2 Φ) : wpE K (tOp (gIx K) (tLst ta) tb) env cs Φ :=
  we_op (we_lstF h)
theorem ws_par {i j : Nat} {a : AE} (h : wpA K ta env cs fun xs c => ∃ x y, xs = [x, y] ∧ a.nx ((env.set i (some x)).set j (some y)) c) : G.wpS K (tPar i j ta) env cs a := fun F B H A σ s D q1 _ _ _ =>
  h F B H A σ s _ fun xs c vs B' H' A' ⟨x, y, e0, f⟩ e p s' r => by
    subst e0
    cases r with
    | cons r1 r2 =>
      cases r2 with
      | cons r2 r3 =>
        cases r3
        exact ⟨_, _, rfl, q1 _ c _ B' H' A' f e p (s'.withEnv (Paired.set' (show RpO K B' A' (some y) (some _) from r2) j (Paired.set' (show RpO K B' A' (some x) (some _) from r1) i s'.sl)))⟩
theorem ws_seqp {i j : Nat} {u : TS} {a : AE} (h : G.wpS K (tPar i j ta) env cs { a with nx := fun e c => G.wpS K u e c a }) : G.wpS K (tSeq (tPar i j ta) u) env cs a := ws_seq h
def stC (g m c : Int) : Cell := .lst [.dat (.int g), .dat (.int m), .dat (.int c)]
/-- a bound far above all that a script's great cells make -/
def bigI : Int := ((2 ^ 14000 : Nat) : Int)
def StOk (n g m c : Int) : Prop := (0 ≤ g ∧ g < bigI) ∧ (0 ≤ m ∧ m < 2 ^ 62) ∧ 0 ≤ c ∧ c ≤ n
theorem StOk.up {n n' g m c : Int} (h : StOk n g m c) (l : n ≤ n') : StOk n' g m c := ⟨h.1, h.2.1, h.2.2.1, Int.le_trans h.2.2.2 l⟩
theorem csb_st {m : Nat} {a b c : Int} : CsB m [stC a b c] := CsB.cons (vlB_dat (vlB_dat (vlB_dat vlB_nil))) CsB.nil
theorem cb_st {m : Nat} {a b c : Int} : CellB m (stC a b c) := vlB_dat (vlB_dat (vlB_dat vlB_nil))
/-- one draw -/
abbrev TakeBS : AS := fun args cs Φ => ∃ (n g m c r : Int), args = [.cel 0, .dat (.int r)] ∧ cs = [stC g m c] ∧ StOk n g m c ∧ n + 1 ≤ 2 ^ 200 ∧ 0 < r ∧ r < 2 ^ 200 ∧ ∀ x g' m' c', 0 ≤ x → x < r → StOk (n + 1) g' m' c' → Φ (.dat (.int x)) [stC g' m' c']
def Take1B (xs : List Vl) (c1 : List Cell) (Φ : Vl → List Cell → Prop) : Prop := ∃ (k : Nat) (n g m c r : Int), xs = [.cel k, .dat (.int r)] ∧ c1[k]? = some (stC g m c) ∧ StOk n g m c ∧ n + 1 ≤ 2 ^ 200 ∧ 0 < r ∧ r < 2 ^ 200 ∧ ∀ x g' m' c', 0 ≤ x → x < r → StOk (n + 1) g' m' c' → Φ (.dat (.int x)) (c1.set k (stC g' m' c'))
theorem ct_takeB {c1 : List Cell} {Φ : Vl → List Cell → Prop} {k : Nat} {n g m c r : Int} (h1 : c1[k]? = some (stC g m c)) (h2 : StOk n g m c) (h3 : n + 1 ≤ 2 ^ 200) (h4 : 0 < r) (h5 : r < 2 ^ 200) (h : ∀ x g' m' c', 0 ≤ x → x < r → StOk (n + 1) g' m' c' → Φ (.dat (.int x)) (c1.set k (stC g' m' c'))) : Take1B [.cel k, .dat (.int r)] c1 Φ := ⟨k, n, g, m, c, r, rfl, h1, h2, h3, h4, h5, h⟩
theorem cl_takeB {E : XK} (h : wpA K ta env cs fun xs c1 => Take1B xs c1 Φ) : wpE K (tCall (conc K TakeBS) [] E ta) env cs Φ :=
  we_call1 fun F B H A σ s Q q => h F B H A σ s Q fun xs cs' vs B' H' A' ⟨k, n, g, m, c, r, e, h1, h2, h3, h4, h5, hq⟩ => q xs cs' vs B' H' A'
    ⟨k, [.int r], stC g m c, fun x c => ∃ z g' m' c', x = .dat (.int z) ∧ c = [stC g' m' c'] ∧ 0 ≤ z ∧ z < r ∧ StOk (n + 1) g' m' c', e, h1, cb_st, ⟨n, g, m, c, r, rfl, rfl, h2, h3, h4, h5, fun z g' m' c' g1 g2 g3 => ⟨z, g', m', c', rfl, rfl, g1, g2, g3⟩⟩,
      fun x c ⟨z, g', m', c', e1, e2, g1, g2, g3⟩ => ⟨stC g' m' c', cb_st, .inl ⟨_, e1, e2, hq z g' m' c' g1 g2 g3⟩⟩⟩
/-- a def that draws, at most so often -/
abbrev DrawBS (cost : Int) (pre : List D → Prop) (post : List D → D → Prop) : AS := fun args cs Φ => ∃ (n g m c : Int) (ds : List D), args = .cel 0 :: ds.map .dat ∧ cs = [stC g m c] ∧ StOk n g m c ∧ n + cost ≤ 2 ^ 200 ∧ pre ds ∧ ∀ d g' m' c', post ds d → StOk (n + cost) g' m' c' → Φ (.dat d) [stC g' m' c']
def Draw1B (cost : Int) (pre : List D → Prop) (post : List D → D → Prop) (xs : List Vl) (c1 : List Cell) (Φ : Vl → List Cell → Prop) : Prop := ∃ (k : Nat) (n g m c : Int) (ds : List D), xs = .cel k :: ds.map .dat ∧ c1[k]? = some (stC g m c) ∧ StOk n g m c ∧ n + cost ≤ 2 ^ 200 ∧ pre ds ∧ ∀ d g' m' c', post ds d → StOk (n + cost) g' m' c' → Φ (.dat d) (c1.set k (stC g' m' c'))
theorem ct_drawB {cost : Int} {pre : List D → Prop} {post : List D → D → Prop} {ys : List Vl} {ds : List D} {c1 : List Cell} {Φ : Vl → List Cell → Prop} {k : Nat} {n g m c : Int} (h0 : datsOf ys = some ds) (h1 : c1[k]? = some (stC g m c)) (h2 : StOk n g m c) (h3 : n + cost ≤ 2 ^ 200) (h4 : pre ds) (h : ∀ d g' m' c', post ds d → StOk (n + cost) g' m' c' → Φ (.dat d) (c1.set k (stC g' m' c'))) : Draw1B cost pre post (.cel k :: ys) c1 Φ := ⟨k, n, g, m, c, ds, by rw [datsOf_eq h0], h1, h2, h3, h4, h⟩
theorem cl_drawB {cost : Int} {pre : List D → Prop} {post : List D → D → Prop} {E : XK} (h : wpA K ta env cs fun xs c1 => Draw1B cost pre post xs c1 Φ) : wpE K (tCall (conc K (DrawBS cost pre post)) [] E ta) env cs Φ :=
  we_call1 fun F B H A σ s Q q => h F B H A σ s Q fun xs cs' vs B' H' A' ⟨k, n, g, m, c, ds, e, h1, h2, h3, h4, hq⟩ => q xs cs' vs B' H' A'
    ⟨k, ds, stC g m c, fun x c => ∃ d g' m' c', x = .dat d ∧ c = [stC g' m' c'] ∧ post ds d ∧ StOk (n + cost) g' m' c', e, h1, cb_st, ⟨n, g, m, c, ds, rfl, rfl, h2, h3, h4, fun d g' m' c' g1 g2 => ⟨d, g', m', c', rfl, rfl, g1, g2⟩⟩,
      fun x c ⟨d, g', m', c', e1, e2, g1, g2⟩ => ⟨stC g' m' c', cb_st, .inl ⟨_, e1, e2, hq d g' m' c' g1 g2⟩⟩⟩
/-- a def that draws and gives a new list -/
abbrev DrawCS (cost : Int) (pre : List D → Prop) (post : List D → List D → Prop) : AS := fun args cs Φ => ∃ (n g m c : Int) (ds : List D), args = .cel 0 :: ds.map .dat ∧ cs = [stC g m c] ∧ StOk n g m c ∧ n + cost ≤ 2 ^ 200 ∧ pre ds ∧ ∀ es g' m' c', post ds es → StOk (n + cost) g' m' c' → Φ (.cel 1) [stC g' m' c', .lst (es.map .dat)]
def Draw1C (cost : Int) (pre : List D → Prop) (post : List D → List D → Prop) (xs : List Vl) (c1 : List Cell) (Φ : Vl → List Cell → Prop) : Prop := ∃ (k : Nat) (n g m c : Int) (ds : List D), xs = .cel k :: ds.map .dat ∧ c1[k]? = some (stC g m c) ∧ StOk n g m c ∧ n + cost ≤ 2 ^ 200 ∧ pre ds ∧ ∀ es g' m' c', post ds es → StOk (n + cost) g' m' c' → Φ (.cel c1.length) (c1.set k (stC g' m' c') ++ [.lst (es.map .dat)])
theorem ct_drawC {cost : Int} {pre : List D → Prop} {post : List D → List D → Prop} {ys : List Vl} {ds : List D} {c1 : List Cell} {Φ : Vl → List Cell → Prop} {k : Nat} {n g m c : Int} (h0 : datsOf ys = some ds) (h1 : c1[k]? = some (stC g m c)) (h2 : StOk n g m c) (h3 : n + cost ≤ 2 ^ 200) (h4 : pre ds) (h : ∀ es g' m' c', post ds es → StOk (n + cost) g' m' c' → Φ (.cel c1.length) (c1.set k (stC g' m' c') ++ [.lst (es.map .dat)])) : Draw1C cost pre post (.cel k :: ys) c1 Φ := ⟨k, n, g, m, c, ds, by rw [datsOf_eq h0], h1, h2, h3, h4, h⟩
theorem cl_drawC {cost : Int} {pre : List D → Prop} {post : List D → List D → Prop} {E : XK} (h : wpA K ta env cs fun xs c1 => Draw1C cost pre post xs c1 Φ) : wpE K (tCall (conc K (DrawCS cost pre post)) [] E ta) env cs Φ :=
  we_call1 fun F B H A σ s Q q => h F B H A σ s Q fun xs cs' vs B' H' A' ⟨k, n, g, m, c, ds, e, h1, h2, h3, h4, hq⟩ => q xs cs' vs B' H' A'
    ⟨k, ds, stC g m c, fun x c => ∃ es g' m' c', x = .cel 1 ∧ c = [stC g' m' c', .lst (es.map .dat)] ∧ post ds es ∧ StOk (n + cost) g' m' c', e, h1, cb_st, ⟨n, g, m, c, ds, rfl, rfl, h2, h3, h4, fun es g' m' c' g1 g2 => ⟨es, g', m', c', rfl, rfl, g1, g2⟩⟩,
      fun x c ⟨es, g', m', c', e1, e2, g1, g2⟩ => ⟨stC g' m' c', cb_st, .inr ⟨_, e1, e2, cb_dats, hq es g' m' c' g1 g2⟩⟩⟩
end
/-! ### one of some texts -/
def strsOf : List D → Option (List Str)
  | [] => some []
  | .str z :: r => match strsOf r with
    | some q => some (z :: q)
    | none => none
  | _ => none
theorem strsOf_eq : ∀ {ds : List D} {xs : List Str}, strsOf ds = some xs → ds = xs.map .str
  | [], xs, h => by
    cases h
    rfl
  | d :: r, xs, h => by
    cases d with
    | str z =>
      rw [strsOf] at h
      cases e : strsOf r with
      | none =>
        rw [e] at h
        cases h
      | some q =>
        rw [e] at h
        cases h
        rw [strsOf_eq e]
        rfl
    | _ => cases h
section
variable {K : PySem.W.Frag} {env : G.Env} {cs : List Cell} {Φ : Vl → List Cell → Prop} {x y : Vl}
theorem wu_inK {z : Str} {ds : List D} {xs : List Str} (hx : x = .dat (.str z)) (hy : y = .dat (.tuple ds)) (hd : strsOf ds = some xs) (f : Φ (.dat (.bool (decide (z ∈ xs)))) cs) : wpR K (gInA K false) x y env cs Φ := by
  rw [strsOf_eq hd] at hy
  subst hy
  exact wu_inL hx (.inr .dat) f
theorem wu_ninK {z : Str} {ds : List D} {xs : List Str} (hx : x = .dat (.str z)) (hy : y = .dat (.tuple ds)) (hd : strsOf ds = some xs) (f : Φ (.dat (.bool (!decide (z ∈ xs)))) cs) : wpR K (gInA K true) x y env cs Φ := by
  rw [strsOf_eq hd] at hy
  subst hy
  exact wu_ninL hx (.inr .dat) f
theorem wu_inKL {z : Str} {k : Nat} {vs : List Vl} {ds : List D} {xs : List Str} (hx : x = .dat (.str z)) (hy : y = .cel k) (hc : cs[k]? = some (.lst vs)) (hv : datsOf vs = some ds) (hd : strsOf ds = some xs) (f : Φ (.dat (.bool (decide (z ∈ xs)))) cs) : wpR K (gInA K false) x y env cs Φ := by
  subst hy
  have e := datsOf_eq hv
  rw [strsOf_eq hd] at e
  rw [e] at hc
  exact wu_inL hx (.inl (.cel hc)) f
theorem wu_ninKL {z : Str} {k : Nat} {vs : List Vl} {ds : List D} {xs : List Str} (hx : x = .dat (.str z)) (hy : y = .cel k) (hc : cs[k]? = some (.lst vs)) (hv : datsOf vs = some ds) (hd : strsOf ds = some xs) (f : Φ (.dat (.bool (!decide (z ∈ xs)))) cs) : wpR K (gInA K true) x y env cs Φ := by
  subst hy
  have e := datsOf_eq hv
  rw [strsOf_eq hd] at e
  rw [e] at hc
  exact wu_ninL hx (.inl (.cel hc)) f
theorem wu_ix0 {a : D} {r : List D} (hx : x = .dat (.tuple (a :: r))) (hy : y = .dat (.int 0)) (f : Φ (.dat a) cs) : wpR K (gIx K) x y env cs Φ := wu_ixT hx hy (atI_nat (j := 0) rfl) f
theorem wu_ix1 {a b : D} {r : List D} (hx : x = .dat (.tuple (a :: b :: r))) (hy : y = .dat (.int 1)) (f : Φ (.dat b) cs) : wpR K (gIx K) x y env cs Φ := wu_ixT hx hy (atI_nat (j := 1) rfl) f
theorem wu_ix2 {a b c : D} {r : List D} (hx : x = .dat (.tuple (a :: b :: c :: r))) (hy : y = .dat (.int 2)) (f : Φ (.dat c) cs) : wpR K (gIx K) x y env cs Φ := wu_ixT hx hy (atI_nat (j := 2) rfl) f
theorem wu_ix3 {a b c d : D} {r : List D} (hx : x = .dat (.tuple (a :: b :: c :: d :: r))) (hy : y = .dat (.int 3)) (f : Φ (.dat d) cs) : wpR K (gIx K) x y env cs Φ := wu_ixT hx hy (atI_nat (j := 3) rfl) f
theorem wr_eqBo {a b : Bool} (hx : x = .dat (.bool a)) (hy : y = .dat (.bool b)) (f : Φ (.dat (.bool (a == b))) cs) : wpR K (gEq K) x y env cs Φ := by
  subst hx hy
  exact wr_eq .dat .dat rfl rfl (by simp [PyData.depth]) f
end
/-! ### small data -/
end G
/-! data that a module's name stands for -/
namespace G
open PySem PySem.Spec PyProof.Rows L2 TL
def tD (K : PySem.W.Frag) (d : D) : TE := fun σ H Q => ∀ v, (∀ B, Rp K B d v) → Q v H
section
variable {K : PySem.W.Frag} {env : G.Env} {cs : List Cell} {Φ : Vl → List Cell → Prop}
theorem we_tD {d : D} (f : Φ (.dat d) cs) : wpE K (tD K d) env cs Φ := fun F B H A σ s Q q v hv => q.now s (x := .dat d) (hv B) f
end
end G
/-! dicts as data that nobody looks into -/
namespace G
open PySem PySem.Spec PyProof.Rows L2 TL
section
variable {K : PySem.W.Frag} {F B H : Hp} {A : List Addr} {env : G.Env} {cs : List Cell} {σ : L2.St} {Φ : Vl → List Cell → Prop}
theorem we_dnewF (f : Φ (.dat (.dict [])) cs) : wpE K tDNewK env cs Φ := fun F B H A σ s Q q p hp =>
  q (.dat (.dict [])) cs (.ref p) _ _ A f (same_up s.eb hp) (Pre.refl A) (s.tup hp) ⟨p, rfl, [], .inl upd_same⟩
theorem St.unfB {p : Addr} {o : HO} (s : G.St K (upd F p o) B H A env cs σ) (hf : F p = none) : G.St K F (upd B p o) H A env cs σ := by
  have hb : B p = none := s.bf p o upd_same
  have sb : Same B (upd B p o) := fun b u q => by
    rw [upd_ne (fun z => by rw [z, hb] at q; cases q)]
    exact q
  have nA : ∀ (k : Nat) (a : Addr), A[k]? = some a → a ≠ p := fun k a q z => by
    have := (s.ca k a q).2
    rw [z, upd_same] at this
    cases this
  have sf : ∀ b u, F b = some u → (upd F p o) b = some u := fun b u q => by
    rw [upd_ne (fun z => by rw [z, hf] at q; cases q)]
    exact q
  refine ⟨fun b u q => ?_, fun b u q => s.ef b u (sf b u q), fun b u q => ?_, s.la, s.nd, fun k a q => ⟨?_, ?_⟩, fun k a c q r => (s.ch k a c q r).mono sb (Pre.refl A) rfl, RpOs.mono sb (Pre.refl A) s.sl, s.tb.step sb fun P ps h1 h2 h3 h4 => ⟨(by
    cases q : F P with
    | none => rfl
    | some u =>
      rw [sf P u q] at h2
      cases h2), by rw [upd_ne (fun z => by rw [z, upd_same] at h2; cases h2)]; exact h3, h4, h1⟩⟩
  · by_cases e : b = p
    · subst e
      rw [upd_same] at q
      exact s.ef _ u (by rw [upd_same]; exact q)
    · rw [upd_ne e] at q
      exact s.eb _ _ q
  · rw [upd_ne (fun z => by rw [z, hf] at q; cases q)]
    exact s.bf b u (sf b u q)
  · rw [upd_ne (nA k a q)]
    exact (s.ca k a q).1
  · have := (s.ca k a q).2
    rw [upd_ne (nA k a q)] at this
    exact this
theorem we_disp1 {tk tv : TE} (h : wpE K tk env cs fun x c => (∃ z, x = .dat (.str z)) ∧ wpE K tv env c fun y c2 => Φ (.dat (.dict [])) c2) : wpE K (tDisp [(tk, tv)]) env cs Φ := fun F B H A σ s Q q p hp => by
  have hf : F p = none := by
    cases e : F p with
    | none => rfl
    | some u =>
      have := s.ef _ _ e
      rw [hp] at this
      cases this
  refine h (upd F p (.dK [])) B _ A σ (s.fnew hp) _ fun x c1 v B1 H1 A1 ⟨⟨z, ex⟩, hv⟩ e1 p1 st1 r1 => ?_
  subst ex
  obtain rfl : v = .str z := r1
  refine hv (upd F p (.dK [])) B1 H1 A1 σ st1 _ fun y c2 v2 B2 H2 A2 f e2 p2 st2 r2 => ?_
  refine ⟨st2.ef p _ upd_same, [(.inr z, v2)], rfl, (by show 1 ≤ 15; decide), ?_⟩
  have st3 := (st2.fput (o' := .dK (mergeK [] [(.inr z, v2)]))).unfB hf
  have hb : B2 p = none := st2.bf p _ upd_same
  have sb : Same B2 (upd B2 p (.dK (mergeK [] [(.inr z, v2)]))) := fun b u q => by
    rw [upd_ne (fun z => by rw [z, hb] at q; cases q)]
    exact q
  exact q (.dat (.dict [])) c2 (.ref p) _ _ A2 f ((e1.trans e2).trans sb) (p1.trans p2) st3 ⟨p, rfl, _, .inl upd_same⟩
end
end G
/-! odd data: a list against [], tuple * int, str(int) -/
namespace L2
open PySem PySem.Spec PyProof.Rows
end L2
namespace G
open PySem PySem.Spec PyProof.Rows L2 TL
end G
/-! the purse: a list that holds a list of great numbers, a seed and a counter -/
namespace G
open PySem PySem.Spec PyProof.Rows L2 TL
def PrOk (n : Int) (gs : List Int) (m c : Int) : Prop := (gs.length ≤ 63 ∧ ∀ g, g ∈ gs → 0 ≤ g ∧ g < 2 ^ 400) ∧ (0 ≤ m ∧ m < 2 ^ 61) ∧ 0 ≤ c ∧ c ≤ n
theorem PrOk.up {n n' m c : Int} {gs : List Int} (h : PrOk n gs m c) (l : n ≤ n') : PrOk n' gs m c := ⟨h.1, h.2.1, h.2.2.1, Int.le_trans h.2.2.2 l⟩
end G
/-! f-strings, x or y of texts, str(int) -/
namespace G
open PySem PySem.Spec PyProof.Rows L2 TL
abbrev tJoinS (ts : List TE) : TE := fun σ H Q => tJs ts Str.empty σ H fun out H1 => Q (.str out) H1
def wpJ (K : PySem.W.Frag) (ts : List TE) (acc : Str) (env : G.Env) (cs : List Cell) (Ψ : Str → List Cell → Prop) : Prop :=
  ∀ (F B H : Hp) (A : List Addr) (σ : L2.St), G.St K F B H A env cs σ → ∀ Q : Str → Hp → Prop,
    (∀ out cs' B' H' A', Ψ out cs' → Same B B' → G.Pre A A' → G.St K F B' H' A' env cs' σ → Q out H') → tJs ts acc σ H Q
section
variable {K : PySem.W.Frag} {env : G.Env} {cs : List Cell} {Φ : Vl → List Cell → Prop} {te ta tb : TE} {ts : List TE} {acc : Str} {Ψ : Str → List Cell → Prop}
theorem wj_nil (h : Ψ acc cs) : wpJ K [] acc env cs Ψ := fun F B H A σ s Q q => q acc cs B H A h (Same.refl B) (Pre.refl A) s
theorem wj_cons (h : wpE K te env cs fun x c => ∃ y, x = .dat (.str y) ∧ (acc ++ y).length ≤ 1000000 ∧ wpJ K ts (acc ++ y) env c Ψ) : wpJ K (te :: ts) acc env cs Ψ := fun F B H A σ s Q q =>
  h F B H A σ s _ fun x c v B1 H1 A1 ⟨y, e, hl, f⟩ e1 p1 s1 r1 => by
    subst e
    obtain rfl : v = .str y := r1
    exact ⟨y, rfl, Nat.le_trans hl (by decide), f F B1 H1 A1 σ s1 Q fun out cs' B' H' A' g e2 p2 s2 => q out cs' B' H' A' g (e1.trans e2) (p1.trans p2) s2⟩
theorem we_joined (h : wpJ K ts Str.empty env cs fun out c => Φ (.dat (.str out)) c) : wpE K (tJoinS ts) env cs Φ := fun F B H A σ s Q q =>
  h F B H A σ s _ fun out cs' B' H' A' f e p s' => q (.dat (.str out)) cs' (.str out) B' H' A' f e p s' rfl
/-- is None -/
def isN : D → Bool
  | .none => true
  | _ => false
theorem rp_isN {H : Hp} {d : D} {v : V} (r : Rp K H d v) : decide (v = V.non) = isN d := by
  cases d with
  | none =>
    obtain rfl : v = .non := r
    rfl
  | bool b =>
    obtain rfl : v = .bl b := r
    rfl
  | int i =>
    obtain rfl : v = .int i := r
    rfl
  | str z =>
    obtain rfl : v = .str z := r
    rfl
  | tuple ds =>
    obtain ⟨a, vs, rfl, _⟩ := r
    rfl
  | list ds =>
    obtain ⟨a, vs, rfl, _⟩ := r
    rfl
  | dict ds =>
    obtain ⟨a, rfl, _⟩ := r
    rfl
theorem wr_isN {d : D} {x y : Vl} (hx : x = .dat d) (hy : y = .dat .none) (f : Φ (.dat (.bool (isN d))) cs) : wpR K (fun x y H Q => y = V.non ∧ Q (V.bl (decide (x = V.non))) H) x y env cs Φ := fun F B H A σ v w s r1 r2 Q q => by
  subst hx hy
  obtain rfl : w = .non := r2
  refine ⟨rfl, ?_⟩
  rw [rp_isN (show Rp K B d v from r1)]
  exact q.now s (x := .dat (.bool (isN d))) rfl f
theorem wr_notN {d : D} {x y : Vl} (hx : x = .dat d) (hy : y = .dat .none) (f : Φ (.dat (.bool (!isN d))) cs) : wpR K (fun x y H Q => y = V.non ∧ Q (V.bl (!decide (x = V.non))) H) x y env cs Φ := fun F B H A σ v w s r1 r2 Q q => by
  subst hx hy
  obtain rfl : w = .non := r2
  refine ⟨rfl, ?_⟩
  rw [rp_isN (show Rp K B d v from r1)]
  exact q.now s (x := .dat (.bool (!isN d))) rfl f
theorem datOf_celF {vs : List Vl} {ds : List D} {k : Nat} (h : cs[k]? = some (.lst vs)) (h2 : datsOf vs = some ds) : DatOf cs (.cel k) (.list ds) := by
  refine .cel ?_
  rw [h, datsOf_eq h2]
/-- list + list, data or cells -/
theorem wu_addG {ds es : List D} {x y : Vl} (hx : DatOf cs x (.list ds)) (hy : DatOf cs y (.list es)) (hl : ds.length + es.length ≤ 1000000) (f : Φ (.cel cs.length) (cs ++ [.lst ((ds ++ es).map .dat)])) : wpR K (gAdd K) x y env cs Φ := fun F B H A σ v w s r1 r2 Q q => by
  obtain ⟨a, rfl, g⟩ := s.seqL r1 hx
  obtain ⟨b, rfl, g'⟩ := s.seqL r2 hy
  obtain ⟨vs, hs, hr⟩ := g F B H A env cs σ (fun _ _ h => h) (fun _ _ h => h) s hx
  obtain ⟨ws, ht, hr2⟩ := g' F B H A env cs σ (fun _ _ h => h) (fun _ _ h => h) s hy
  exact .inr (.inr (.inl ⟨a, b, vs, ws, rfl, rfl, hs, ht, by rw [hr.length, hr2.length]; exact Nat.le_trans hl (by decide), fun p hp => q.lst s hp (RpVs.of_dats (ds := ds ++ es) (RpL.append hr hr2)) f⟩))
end
end G
/-! sorted(set(a list of texts)) -/
namespace G
open PySem PySem.Spec PyProof.Rows L2 TL PySem.Froz
/-! ### lists without doubles -/
theorem len_le_of {α : Type} [BEq α] [LawfulBEq α] : ∀ {l K : List α}, l.Nodup → (∀ k, k ∈ l → k ∈ K) → l.length ≤ K.length
  | [], _, _, _ => Nat.zero_le _
  | x :: l, K, nd, h => by
    obtain ⟨hx, nl⟩ := List.nodup_cons.mp nd
    have h1 := h x (List.mem_cons_self ..)
    have h2 := len_le_of (l := l) (K := K.erase x) nl fun k hk => (List.mem_erase_of_ne fun e => hx (by rw [← e]; exact hk)).mpr (h k (List.mem_cons_of_mem _ hk))
    have h3 := List.length_erase_of_mem h1
    have h4 := List.length_pos_of_mem h1
    rw [List.length_cons]
    omega
/-! ### the set's payload -/
section
variable {P : Program} {w : World} {A : Around} {E : Value → Shared → Prop} {s : Shared}
/-- the set of the texts l -/
structure SetS (P : Program) (w : World) (h : Heap) (a : Addr) (l : List Str) : Prop where
  ex : ∃ D, h.get? a = some (sObj "set" D) ∧ TxOk P w D l ∧ Ris D.2.2.place.toList ∧ (w.params.followText "set-order" = true ∨ D.2.2.led = true)
  nd : l.Nodup
theorem SetS.at {h h' : Heap} {a : Addr} {l : List Str} (R : SetS P w h a l) (k : ∀ o, h.get? a = some o → h'.get? a = some o) : SetS P w h' a l := by
  obtain ⟨⟨D, ho, r⟩, nd⟩ := R
  exact ⟨⟨D, k _ ho, r⟩, nd⟩
/-- texts that rise -/
def SRise (ys : List Str) : Prop := ys.Pairwise fun a b => PySem.W.dataLt (.str a) (.str b) = true
theorem sort_rise {K : List Str} (nd : K.Nodup) : SRise (K.mergeSort (PySem.W.dataLe false PyData.str)) := by
  have e : sortD (K.map PyData.str) = (K.mergeSort (PySem.W.dataLe false PyData.str)).map PyData.str := by
    unfold sortD
    rw [List.map_mergeSort]
    intro a _ b _
    rfl
  have hal : PySem.W.AllAlike (K.map PyData.str) := PySem.W.AllAlike.of fun _ _ => by simp [PySem.W.alike]
  have hr := sortD_rise hal (by
    rw [List.pairwise_map]
    exact nd.imp fun {a b} hne => by
      rw [eqv_str]
      simpa using hne)
  rw [e, List.pairwise_map] at hr
  exact hr
end
end G
/-! dicts whose keys are texts and whose values are data -/
namespace G
open PySem PySem.Spec PyProof.Rows L2 TL
abbrev SD := List (Str × D)
def entV (p : Str × D) : Key × Vl := (Sum.inr p.1, .dat p.2)
def dctS (kv : SD) : Cell := .dct (kv.map entV)
def lkS (kv : SD) (k : Str) : Option D := (kv.find? fun p => decide (p.1 = k)).map (·.2)
def ptS (kv : SD) (k : Str) (v : D) : SD := if (kv.any fun p => decide (p.1 = k)) = true then kv.map (fun p => if p.1 = k then (p.1, v) else p) else kv ++ [(k, v)]
theorem lk_pos {p : Str × D} {r : SD} {k : Str} (e : p.1 = k) : lkS (p :: r) k = some p.2 := by simp [lkS, List.find?_cons, e]
theorem lk_neg {p : Str × D} {r : SD} {k : Str} (e : ¬ p.1 = k) : lkS (p :: r) k = lkS r k := by simp [lkS, List.find?_cons, e]
section
variable {K : PySem.W.Frag} {B : Hp} {A : List Addr}
/-- the texts' keys and the data, as the hand layer holds them -/
abbrev DR (K : PySem.W.Frag) (B : Hp) : SD → List (Key × V) → Prop := Paired fun (p : Str × D) (q : Key × V) => q.1 = Sum.inr p.1 ∧ Rp K B p.2 q.2
theorem DR.of {kv : SD} {ws : List (Key × V)} (h : Paired (fun (p : Key × Vl) (q : Key × V) => p.1 = q.1 ∧ RpV K B A p.2 q.2) (kv.map entV) ws) : DR K B kv ws :=
  Paired.mapL entV h fun a b _ r => ⟨r.1.symm, r.2⟩
theorem DR.to {kv : SD} {ws : List (Key × V)} (h : DR K B kv ws) : Paired (fun (p : Key × Vl) (q : Key × V) => p.1 = q.1 ∧ RpV K B A p.2 q.2) (kv.map entV) ws :=
  Paired.mapR entV h fun a b _ r => ⟨r.1.symm, r.2⟩
theorem DR.get {k : Str} : ∀ {kv : SD} {ws : List (Key × V)}, DR K B kv ws → (lkS kv k = none ∧ valV ws (Sum.inr k) = none) ∨ ∃ d v, lkS kv k = some d ∧ valV ws (Sum.inr k) = some v ∧ Rp K B d v
  | _, _, .nil => .inl ⟨rfl, rfl⟩
  | p :: kv, q :: ws, .cons r t => by
    by_cases e : p.1 = k
    · have e2 : q.1 = Sum.inr k := by rw [r.1, e]
      exact .inr ⟨p.2, q.2, lk_pos e, valV_pos e2, r.2⟩
    · have e2 : ¬ q.1 = Sum.inr k := by
        rw [r.1]
        exact fun z => e (Sum.inr.inj z)
      rw [lk_neg e, valV_neg e2]
      exact DR.get t
theorem DR.any {k : Str} : ∀ {kv : SD} {ws : List (Key × V)}, DR K B kv ws → (ws.any fun q => decide (q.1 = Sum.inr k)) = kv.any fun p => decide (p.1 = k)
  | _, _, .nil => rfl
  | p :: kv, q :: ws, .cons r t => by
    rw [List.any_cons, List.any_cons, DR.any t, r.1]
    congr 1
    by_cases e : p.1 = k
    · rw [decide_eq_true e, e]
      simp
    · rw [decide_eq_false e]
      exact decide_eq_false fun z => e (Sum.inr.inj z)
theorem DR.upd {k : Str} {d : D} {v : V} (hv : Rp K B d v) : ∀ {kv : SD} {ws : List (Key × V)}, DR K B kv ws → DR K B (kv.map fun p => if p.1 = k then (p.1, d) else p) (ws.map fun q => if q.1 = Sum.inr k then (q.1, v) else q)
  | _, _, .nil => .nil
  | p :: kv, q :: ws, .cons r t => by
    rw [List.map_cons, List.map_cons]
    refine .cons ?_ (DR.upd hv t)
    by_cases e : p.1 = k
    · rw [if_pos e, if_pos (by rw [r.1, e])]
      exact ⟨r.1, hv⟩
    · rw [if_neg e, if_neg (by rw [r.1]; exact fun z => e (Sum.inr.inj z))]
      exact r
theorem DR.put {k : Str} {d : D} {v : V} {kv : SD} {ws : List (Key × V)} (h : DR K B kv ws) (hv : Rp K B d v) : DR K B (ptS kv k d) (putK ws (Sum.inr k) v) := by
  unfold ptS putK
  rw [h.any]
  split
  · exact h.upd hv
  · exact Paired.app' h (.cons ⟨rfl, hv⟩ .nil)
end
section
variable {K : PySem.W.Frag} {env : G.Env} {cs : List Cell} {Φ : Vl → List Cell → Prop} {ty td tv tx : TE} {a : AE}
theorem St.dctS {F B H : Hp} {A : List Addr} {σ : L2.St} {j : Nat} {kv : SD} {v : V} (s : G.St K F B H A env cs σ) (hc : cs[j]? = some (dctS kv)) (r : RpV K B A (.cel j) v) : ∃ b ws, A[j]? = some b ∧ v = .ref b ∧ H b = some (.dK ws) ∧ DR K B kv ws := by
  obtain ⟨b, hb, rfl⟩ := r
  obtain ⟨ws, h1, h2⟩ := s.ch j b _ hb hc
  exact ⟨b, ws, hb, rfl, h1, DR.of h2⟩
theorem we_dnew (f : Φ (.cel cs.length) (cs ++ [dctS []])) : wpE K tDNewK env cs Φ := fun F B H A σ s Q q p hp => by
  refine q _ _ _ B _ (A ++ [p]) f (Same.refl B) (Pre.app A [p]) (s.new hp ⟨[], upd_same, .nil⟩) ⟨p, ?_, rfl⟩
  rw [← s.la, List.getElem?_append_right (Nat.le_refl _), Nat.sub_self]
  rfl
theorem ws_dputS (h : wpE K tv env cs fun v c1 => ∃ d, v = .dat d ∧ wpE K td env c1 fun x c2 => wpE K ty env c2 fun y c3 => ∃ (j : Nat) (kv : SD) (k : Str), x = .cel j ∧ y = .dat (.str k) ∧ c3[j]? = some (dctS kv) ∧ kv.length ≤ 1000000 ∧ a.nx env (c3.set j (dctS (ptS kv k d)))) : wpS K (sDPut td ty tv) env cs a := fun F B H A σ s D q1 _ _ _ =>
  h F B H A σ s _ fun v c1 w1 B1 H1 A1 ⟨d, ev, f⟩ e1 p1 s1 r1 => f F B1 H1 A1 σ s1 _ fun x c2 w2 B2 H2 A2 f2 e2 p2 s2 r2 => f2 F B2 H2 A2 σ s2 _ fun y c3 w3 B3 H3 A3 ⟨j, kv, k, ex, ey, hc, hl, g⟩ e3 p3 s3 r3 => by
    subst ev ex ey
    obtain rfl : w3 = .str k := r3
    obtain ⟨b, ws, hb, rfl, hH, hR⟩ := s3.dctS hc (r2.mono e3 p3)
    have hv : Rp K B3 d w1 := (r1.mono (e2.trans e3) (p2.trans p3))
    refine ⟨b, _, rfl, DPut.k (k := Sum.inr k) hH (by rw [← Paired.length hR]; exact Nat.lt_of_le_of_lt hl (by decide)), ?_⟩
    exact q1 env _ σ B3 _ A3 g ((e1.trans e2).trans e3) ((p1.trans p2).trans p3) (s3.put hb ⟨_, upd_same, DR.to (hR.put hv)⟩)
end
section
variable {K : PySem.W.Frag} {env : G.Env} {cs : List Cell} {Φ : Vl → List Cell → Prop} {td : TE}
theorem DR.keys {B : Hp} : ∀ {kv : SD} {ws : List (Key × V)}, DR K B kv ws → ws.map (·.1) = (kv.map (·.1)).map Sum.inr
  | _, _, .nil => rfl
  | _, _, .cons r t => by
    rw [List.map_cons, List.map_cons, List.map_cons, DR.keys t, r.1]
theorem str_trans {a b c : Str} (h : PySem.W.dataLt (.str a) (.str b) = true) (g : PySem.W.dataLt (.str b) (.str c) = true) : PySem.W.dataLt (.str a) (.str c) = true := by
  rw [PySem.W.dataLt_str, decide_eq_true_eq] at h g ⊢
  exact List.lt_trans h g
end
end G
/-! packs of letters in plain Lean; promises from data to data with a free answer -/
namespace G
open PySem PySem.Spec PyProof.Rows L2 TL
/-- a letter -/
abbrev Lr : Type := Str × Int × Str × List Str
def lrD (l : Lr) : D := .tuple [.str l.1, .int l.2.1, .str l.2.2.1, .tuple (l.2.2.2.map .str)]
theorem lr_plain {l : Lr} : (lrD l).plain = true := by
  show (PyData.plainAll [.str l.1, .int l.2.1, .str l.2.2.1, .tuple (l.2.2.2.map .str)]) = true
  rw [PyData.plainAll, PyData.plainAll, PyData.plainAll, PyData.plainAll, PyData.plainAll, PyData.plain, PyData.plain, PyData.plain, PyData.plain, plainAll_strs]
  rfl
theorem lr_depth {l : Lr} : (lrD l).depth ≤ 60 := by
  have := depthAll_strs l.2.2.2
  simp [lrD, PyData.depth, PyData.depthAll]
  omega
theorem alike_strsL : ∀ xs ys : List Str, PySem.W.alikeAll (xs.map PyData.str) (ys.map PyData.str) = true
  | [], ys => by cases ys <;> simp [PySem.W.alikeAll]
  | x :: xs, [] => by simp [PySem.W.alikeAll]
  | x :: xs, y :: ys => by
    rw [List.map_cons, List.map_cons, PySem.W.alikeAll, alike_strsL xs ys]
    simp [PySem.W.alike]
theorem lr_alike (ls : List Lr) : PySem.W.AllAlike (ls.map lrD) := fun d hd e he => by
  obtain ⟨l, _, rfl⟩ := List.mem_map.mp hd
  obtain ⟨k, _, rfl⟩ := List.mem_map.mp he
  simp [lrD, PySem.W.alike, PySem.W.alikeAll, alike_strsL]
theorem str_irr {a : Str} (h : PySem.W.dataLt (.str a) (.str a) = true) : False := by
  rw [PySem.W.dataLt_str, decide_eq_true_eq] at h
  exact List.lt_irrefl _ h
theorem lr_lt {a b : Lr} (h : PySem.W.dataLt (lrD a) (lrD b) = true) : a.1 = b.1 ∨ PySem.W.dataLt (.str a.1) (.str b.1) = true := by
  unfold lrD at h
  rw [PySem.W.dataLt_tuple, PySem.W.dataLt_cons (by simp [PySem.W.alike])] at h
  split at h
  · rename_i e
    rw [eqv_str] at e
    exact .inl (by simpa using e)
  · exact .inr h
/-- a pack rises -/
def PRise (ls : List Lr) : Prop := (ls.map lrD).Pairwise fun a b => PySem.W.dataLt a b = true
theorem PRise.tail {l : Lr} {ls : List Lr} (h : PRise (l :: ls)) : PRise ls := (List.pairwise_cons.mp h).2
theorem PRise.head {l : Lr} {ls : List Lr} (h : PRise (l :: ls)) : ∀ x, x ∈ ls → l.1 = x.1 ∨ PySem.W.dataLt (.str l.1) (.str x.1) = true := fun x hx => lr_lt ((List.pairwise_cons.mp h).1 _ (List.mem_map.mpr ⟨x, hx, rfl⟩))
theorem PRise.drop {ls : List Lr} (h : PRise ls) (n : Nat) : PRise (ls.drop n) := by
  unfold PRise
  rw [List.map_drop]
  exact List.Pairwise.sublist (List.drop_sublist n _) h
/-- the first one of each run of a name -/
def standA : Option Str → List Lr → List Lr
  | _, [] => []
  | o, l :: r => if o = some l.1 then standA o r else l :: standA (some l.1) r
def standL (ls : List Lr) : List Lr := standA none ls
theorem stand_sub : ∀ {ls : List Lr} {o : Option Str} {l : Lr}, l ∈ standA o ls → l ∈ ls
  | [], _, _, h => h
  | x :: r, o, l, h => by
    unfold standA at h
    split at h
    · exact List.mem_cons_of_mem _ (stand_sub h)
    · rcases List.mem_cons.mp h with e | h
      · rw [e]
        exact List.mem_cons_self ..
      · exact List.mem_cons_of_mem _ (stand_sub h)
/-! ### data to data, the answer free -/
abbrev PostAS (pre : List D → Prop) (post : List D → D → Prop) : AS := fun args cs Φ => ∃ ds, args = ds.map .dat ∧ cs = [] ∧ pre ds ∧ ∀ d, post ds d → Φ (.dat d) []
def Post1 (pre : List D → Prop) (post : List D → D → Prop) (xs : List Vl) (c1 : List Cell) (Φ : Vl → List Cell → Prop) : Prop := ∃ ds, xs = ds.map .dat ∧ pre ds ∧ ∀ d, post ds d → Φ (.dat d) c1
section
variable {K : PySem.W.Frag} {env : G.Env} {cs : List Cell} {Φ : Vl → List Cell → Prop} {ta : TA}
theorem cl_post {pre : List D → Prop} {post : List D → D → Prop} {E : XK} (h : wpA K ta env cs fun xs c1 => Post1 pre post xs c1 Φ) : wpE K (tCall (conc K (PostAS pre post)) [] E ta) env cs Φ :=
  we_call0 fun F B H A σ s Q q => h F B H A σ s Q fun xs cs' vs B' H' A' ⟨ds, e, hp, hq⟩ => q xs cs' vs B' H' A' ⟨fun x c => ∃ d, x = .dat d ∧ c = [] ∧ post ds d, ⟨ds, e, rfl, hp, fun d hd => ⟨d, rfl, rfl, hd⟩⟩, by rw [e]; exact vlB_dats ds, fun x c ⟨d, e1, e2, hd⟩ => ⟨d, e1, e2, hq d hd⟩⟩
end
end G
/-! one of some numbers, one of some texts, by place -/
namespace G
open PySem PySem.Spec PyProof.Rows L2 TL
def intsOf : List D → Option (List Int)
  | [] => some []
  | .int z :: r => match intsOf r with
    | some q => some (z :: q)
    | none => none
  | _ => none
theorem intsOf_eq : ∀ {ds : List D} {xs : List Int}, intsOf ds = some xs → ds = xs.map .int
  | [], xs, h => by
    cases h
    rfl
  | d :: r, xs, h => by
    cases d with
    | int z =>
      rw [intsOf] at h
      cases e : intsOf r with
      | none =>
        rw [e] at h
        cases h
      | some q =>
        rw [e] at h
        cases h
        rw [intsOf_eq e]
        rfl
    | _ => cases h
section
variable {K : PySem.W.Frag} {env : G.Env} {cs : List Cell} {Φ : Vl → List Cell → Prop} {x y : Vl}
theorem wv_ixLI {ds : List D} {xs : List Int} {i : Int} (hx : x = .dat (.list ds)) (hy : y = .dat (.int i)) (hd : intsOf ds = some xs) (h0 : 0 ≤ i) (h1 : i < xs.length) (f : ∀ r, r ∈ xs → Φ (.dat (.int r)) cs) : wpR K (gIx K) x y env cs Φ := by
  have e := intsOf_eq hd
  subst e
  exact wv_ixL hx hy h0 (by rw [List.length_map]; exact h1) fun d hd' _ => by
    obtain ⟨r, hr, rfl⟩ := List.mem_map.mp hd'
    exact f r hr
theorem wv_ixLS {ds : List D} {xs : List Str} {i : Int} (hx : x = .dat (.list ds)) (hy : y = .dat (.int i)) (hd : strsOf ds = some xs) (h0 : 0 ≤ i) (h1 : i < xs.length) (f : ∀ r, r ∈ xs → Φ (.dat (.str r)) cs) : wpR K (gIx K) x y env cs Φ := by
  have e := strsOf_eq hd
  subst e
  exact wv_ixL hx hy h0 (by rw [List.length_map]; exact h1) fun d hd' _ => by
    obtain ⟨r, hr, rfl⟩ := List.mem_map.mp hd'
    exact f r hr
end
end G
/-! dicts of texts to data that nobody changes any more: data -/
namespace G
open PySem PySem.Spec PyProof.Rows L2 TL
section
variable {X : Cx}
def tFrzE (t : TE) : TE := fun σ H Q => t σ H fun x H1 => ∃ d u, x = .ref d ∧ H1 d = some u ∧ Mut (some u) ∧ ∀ od, Q x (upd H1 d (.frz od u))
theorem pe_frz {e : Expr} {t : TE} (h : PE X e t) : PE X e (tFrzE t) := by
  refine ⟨fun pins s σ H Q I hw => ?_⟩
  refine thn (h.run pins s σ _ _ I hw) fun v s1 ⟨x, H1, I1, r, d, u, ex, hd, mu, q⟩ => ?_
  obtain ⟨od, I2⟩ := I1.lock hd mu
  exact ⟨x, _, I2, r, q od⟩
end
def mkE : PyData × PyData := (.none, .none)
def entD (p : Str × D) : PyData × PyData := (.str p.1, p.2)
def dcD (kv : SD) : D := .dict (mkE :: kv.map entD)
section
variable {K : PySem.W.Frag} {H B : Hp}
theorem rpk_of : ∀ {kv : SD} {ws : List (Key × V)}, DR K H kv ws → RpK K H (kv.map entD) ws
  | _, _, .nil => rfl
  | _, _, .cons r t => ⟨_, _, rfl, ⟨by rw [r.1]; rfl, r.2⟩, rpk_of t⟩
theorem dr_of : ∀ {kv : SD} {ws : List (Key × V)}, RpK K H (kv.map entD) ws → DR K H kv ws
  | [], _, h => by
    have e : _ = [] := h
    rw [e]
    exact .nil
  | p :: kv, _, ⟨q, t, e, ⟨h1, h2⟩, h3⟩ => by
    rw [e]
    exact .cons ⟨(Option.some.inj h1).symm, h2⟩ (dr_of h3)
theorem rp_dcD {kv : SD} {v : V} (r : Rp K H (dcD kv) v) : ∃ a o ws, v = .ref a ∧ H a = some (.frz o (.dK ws)) ∧ DR K H kv ws := by
  obtain ⟨a, e, h1, _⟩ := r
  obtain ⟨o, ws, ho, hm⟩ := h1 rfl
  exact ⟨a, o, ws, e, ho, dr_of hm⟩
theorem dcD_rp {kv : SD} {a : Addr} {o : Obj} {ws : List (Key × V)} (h : H a = some (.frz o (.dK ws))) (r : DR K H kv ws) : Rp K H (dcD kv) (.ref a) :=
  ⟨a, rfl, fun _ => ⟨o, ws, h, rpk_of r⟩, .inl rfl, fun q => nomatch q⟩
end
/-! ### statements behind which cells may be let go -/
def wpSm (K : PySem.W.Frag) (m : Nat) (t : TS) (env : G.Env) (cs : List Cell) (a : AE) : Prop :=
  ∀ F B H A σ, G.St K F B H A env cs σ → ∀ D : Ends, PoN K F B (A.take m) a.nx D.nx → PoR K F B (A.take m) a.rt D.rt → PoN K F B (A.take m) a.bk D.bk → PoN K F B (A.take m) a.ct D.ct → t D σ H
theorem Pre.takeL (A : List Addr) (m : Nat) : Pre (A.take m) A := fun k a q => (take_get.mp q).2
theorem Pre.takeM {A A' : List Addr} {m : Nat} (p : Pre (A.take m) A') : Pre (A.take m) (A'.take m) := fun k a q => take_get.mpr ⟨(take_get.mp q).1, p k a q⟩
section
variable {K : PySem.W.Frag} {env : G.Env} {cs : List Cell} {m : Nat} {t u : TS} {a : AE} {te : TE}
theorem PoN.to {F B : Hp} {A A' : List Addr} {Φ : G.Env → List Cell → Prop} {N : L2.St → Hp → Prop} (q : PoN K F B A Φ N) (p : Pre A A') : PoN K F B A' Φ N := q.on (Same.refl B) p
theorem PoR.to {F B : Hp} {A A' : List Addr} {Φ : Vl → List Cell → Prop} {Q : VK} (q : PoR K F B A Φ Q) (p : Pre A A') : PoR K F B A' Φ Q := q.on (Same.refl B) p
theorem wsm_end (h : G.wpS K t env cs a) : wpSm K m t env cs a := fun F B H A σ s D q1 q2 q3 q4 =>
  h F B H A σ s D (q1.to (Pre.takeL A m)) (q2.to (Pre.takeL A m)) (q3.to (Pre.takeL A m)) (q4.to (Pre.takeL A m))
theorem wsm_begin (h : wpSm K cs.length t env cs a) : G.wpS K t env cs a := fun F B H A σ s D q1 q2 q3 q4 => by
  have e : A.take cs.length = A := by rw [← s.la, List.take_length]
  exact h F B H A σ s D (by rw [e]; exact q1) (by rw [e]; exact q2) (by rw [e]; exact q3) (by rw [e]; exact q4)
theorem wsm_seq (h : G.wpS K t env cs { a with nx := fun e c => wpSm K m u e c a }) : wpSm K m (tSeq t u) env cs a := fun F B H A σ s D q1 q2 q3 q4 =>
  h F B H A σ s { D with nx := u D } (fun env' cs' σ' B' H' A' f e p s' =>
      f F B' H' A' σ' s' D (q1.on e (Pre.takeM ((Pre.takeL A m).trans p))) (q2.on e (Pre.takeM ((Pre.takeL A m).trans p))) (q3.on e (Pre.takeM ((Pre.takeL A m).trans p))) (q4.on e (Pre.takeM ((Pre.takeL A m).trans p))))
    (q2.to (Pre.takeL A m)) (q3.to (Pre.takeL A m)) (q4.to (Pre.takeL A m))
end
/-! ### reading -/
/-- data that has one form only -/
def flatD : D → Bool
  | .none => true
  | .bool _ => true
  | .int _ => true
  | .str _ => true
  | _ => false
def valD : D → V
  | .bool b => .bl b
  | .int i => .int i
  | .str z => .str z
  | _ => .non
theorem flat_rp {K : PySem.W.Frag} {B : Hp} {d : D} (hf : flatD d = true) : Rp K B d (valD d) := by
  cases d <;> first | rfl | cases hf
def Flat (kv : SD) : Prop := ∀ p, p ∈ kv → flatD p.2 = true
def wsK (kv : SD) : List (Key × V) := kv.map fun p => (Sum.inr p.1, valD p.2)
theorem dr_self {K : PySem.W.Frag} {B : Hp} : ∀ {kv : SD}, Flat kv → DR K B kv (wsK kv)
  | [], _ => .nil
  | p :: kv, hf => .cons ⟨rfl, flat_rp (hf p (List.mem_cons_self ..))⟩ (dr_self fun z hz => hf z (List.mem_cons_of_mem _ hz))
/-- a dict of flat data while it is locked -/
def lkC (od : Obj) (kv : SD) : Cell := .dcx (fun _ _ _ => .frz od (.dK (wsK kv))) []
def IsDct (cs : List Cell) (x : Vl) (kv : SD) : Prop := x = .dat (dcD kv) ∨ (∃ j, x = .cel j ∧ cs[j]? = some (dctS kv)) ∨ ∃ j od, x = .cel j ∧ cs[j]? = some (lkC od kv) ∧ Flat kv
section
variable {K : PySem.W.Frag} {env : G.Env} {cs : List Cell} {Φ : Vl → List Cell → Prop} {ty td tv tx : TE} {a : AE}
theorem St.isDct {F B H : Hp} {A : List Addr} {σ : L2.St} {x : Vl} {kv : SD} {v : V} (s : G.St K F B H A env cs σ) (hx : IsDct cs x kv) (r : RpV K B A x v) : ∃ b ws, v = .ref b ∧ Rd H b (.dK ws) ∧ DR K B kv ws := by
  rcases hx with rfl | ⟨j, rfl, hc⟩ | ⟨j, od, rfl, hc, hf⟩
  · obtain ⟨b, o, ws, e, h1, h2⟩ := rp_dcD (show Rp K B (dcD kv) v from r)
    exact ⟨b, ws, e, .inr ⟨o, s.eb _ _ h1⟩, h2⟩
  · obtain ⟨b, ws, _, e, h1, h2⟩ := s.dctS hc r
    exact ⟨b, ws, e, .inl h1, h2⟩
  · obtain ⟨b, hb, rfl⟩ := r
    obtain ⟨_, h1, _⟩ := s.ch j b _ hb hc
    exact ⟨b, _, rfl, .inr ⟨od, h1⟩, dr_self hf⟩
theorem dget_rd {H : Hp} {b : Addr} {ws : List (Key × V)} {k : Str} (h : Rd H b (.dK ws)) : DGet H b (V.str k) (valV ws (Sum.inr k)) := .inl ⟨ws, Sum.inr k, h, rfl, rfl⟩
theorem we_dIn (h : wpE K ty env cs fun y c1 => wpE K td env c1 fun x c2 => ∃ (k : Str) (kv : SD), y = .dat (.str k) ∧ IsDct c2 x kv ∧ Φ (.dat (.bool (lkS kv k).isSome)) c2) : wpE K (tDIn ty td) env cs Φ := fun F B H A σ s Q q =>
  h F B H A σ s _ fun y c1 v1 B1 H1 A1 f e1 p1 s1 r1 => f F B1 H1 A1 σ s1 _ fun x c2 v2 B2 H2 A2 ⟨k, kv, ey, hc, g⟩ e2 p2 s2 r2 => by
    subst ey
    obtain rfl : v1 = .str k := r1
    obtain ⟨b, ws, rfl, hH, hR⟩ := s2.isDct hc r2
    refine ⟨b, valV ws (Sum.inr k), rfl, dget_rd hH, ?_⟩
    have e : (valV ws (Sum.inr k)).isSome = (lkS kv k).isSome := by
      rcases hR.get (k := k) with ⟨h1, h2⟩ | ⟨d, v, h1, h2, _⟩ <;> rw [h1, h2] <;> rfl
    rw [e]
    exact (q.on (e1.trans e2) (p1.trans p2)).now s2 (x := .dat (.bool (lkS kv k).isSome)) rfl g
theorem we_dNin (h : wpE K ty env cs fun y c1 => wpE K td env c1 fun x c2 => ∃ (k : Str) (kv : SD), y = .dat (.str k) ∧ IsDct c2 x kv ∧ Φ (.dat (.bool (!(lkS kv k).isSome))) c2) : wpE K (tDNotIn ty td) env cs Φ := fun F B H A σ s Q q =>
  h F B H A σ s _ fun y c1 v1 B1 H1 A1 f e1 p1 s1 r1 => f F B1 H1 A1 σ s1 _ fun x c2 v2 B2 H2 A2 ⟨k, kv, ey, hc, g⟩ e2 p2 s2 r2 => by
    subst ey
    obtain rfl : v1 = .str k := r1
    obtain ⟨b, ws, rfl, hH, hR⟩ := s2.isDct hc r2
    refine ⟨b, valV ws (Sum.inr k), rfl, dget_rd hH, ?_⟩
    have e : (valV ws (Sum.inr k)).isSome = (lkS kv k).isSome := by
      rcases hR.get (k := k) with ⟨h1, h2⟩ | ⟨d, v, h1, h2, _⟩ <;> rw [h1, h2] <;> rfl
    rw [e]
    exact (q.on (e1.trans e2) (p1.trans p2)).now s2 (x := .dat (.bool (!(lkS kv k).isSome))) rfl g
/-- a new dict as data -/
theorem we_frzE {te : TE} (h : wpE K te env cs fun x c => ∃ (k : Nat) (kv : SD), x = .cel k ∧ cs.length ≤ k ∧ c[k]? = some (dctS kv) ∧ CsB cs.length (c.take cs.length) ∧ Φ (.dat (dcD kv)) (c.take cs.length)) : wpE K (tFrzE te) env cs Φ := fun F B H A σ s Q q =>
  h F B H A σ s _ fun x c v B' H' A' f e p s' r => by
    obtain ⟨k, kv, rfl, hk, hc, hb, g⟩ := f
    obtain ⟨b, hA, rfl⟩ : ∃ b, A'[k]? = some b ∧ v = .ref b := r
    obtain ⟨ws, h1, h2⟩ := s'.ch k b _ hA hc
    have hR : DR K B' kv ws := DR.of h2
    have hba := s'.ca k b hA
    refine ⟨b, .dK ws, rfl, h1, trivial, fun od => ?_⟩
    have sb : Same B' (upd B' b (.frz od (.dK ws))) := fun c u q => by
      rw [upd_ne (fun z => by rw [z, hba.1] at q; cases q)]
      exact q
    have hp : Pre A (A'.take cs.length) := p.take (Nat.le_of_eq s.la)
    have s1 := s'.take hb (RpOs.mono e hp s.sl)
    have nA : ∀ (j : Nat) (c : Addr), (A'.take cs.length)[j]? = some c → c ≠ b := fun j c q z => by
      subst z
      have q2 := take_get.mp q
      have e1 := List.getElem?_eq_some_iff.mp q2.2
      have e2 := List.getElem?_eq_some_iff.mp hA
      have e3 := (List.getElem_inj s'.nd).mp (e1.2.trans e2.2.symm)
      omega
    have s2 : G.St K F (upd B' b (.frz od (.dK ws))) (upd H' b (.frz od (.dK ws))) (A'.take cs.length) env (c.take cs.length) σ := by
      refine ⟨fun c u q => ?_, fun c u q => ?_, fun c u q => ?_, s1.la, s1.nd, fun j c q => ⟨?_, (s1.ca j c q).2⟩, fun j c d q r => (s1.ch j c d q r).mono sb (Pre.refl _) (upd_ne (nA j c q)), RpOs.mono sb (Pre.refl _) s1.sl, s'.tb.step sb fun P ps g1 g2 g3 g4 => by
        have n : P ≠ b := fun z => g4 (by rw [z]; exact List.mem_of_getElem? hA)
        exact ⟨g2, by rw [upd_ne n]; exact g3, fun z => g4 (List.mem_of_mem_take z), by rw [upd_ne n]; exact g1⟩⟩
      · by_cases e : c = b
        · subst e
          rw [upd_same] at q ⊢
          exact q
        · rw [upd_ne e] at q ⊢
          exact s'.eb _ _ q
      · rw [upd_ne (fun z => by rw [z, hba.2] at q; cases q)]
        exact s'.ef _ _ q
      · rw [upd_ne (fun z => by rw [z, hba.2] at q; cases q)]
        exact s'.bf _ _ q
      · rw [upd_ne (nA j c q)]
        exact (s1.ca j c q).1
    exact q _ _ _ _ _ _ g (e.trans sb) hp s2 (dcD_rp (o := od) upd_same (Paired.mapP hR fun _ _ q => ⟨q.1, q.2.mono sb⟩))
/-! ### walks -/
theorem DR.getP {B : Hp} : ∀ {kv : SD} {ws : List (Key × V)} {i : Nat} {k : Key} {v : V}, DR K B kv ws → ws[i]? = some (k, v) → ∃ x d, kv[i]? = some (x, d) ∧ k = Sum.inr x ∧ Rp K B d v
  | [], _, _, _, _, .nil, h => by simp at h
  | p :: kv, q :: ws, 0, k, v, .cons r t, h => by
    have e : q = (k, v) := Option.some.inj (by simpa using h)
    refine ⟨p.1, p.2, rfl, ?_, ?_⟩
    · rw [← r.1, e]
    · have := r.2
      rw [e] at this
      exact this
  | p :: kv, q :: ws, i + 1, k, v, .cons r t, h => by
    obtain ⟨x, d, h1, h2, h3⟩ := DR.getP (i := i) t (by simpa using h)
    exact ⟨x, d, by simpa using h1, h2, h3⟩
def pairE (p : Str × D) : D := .tuple [.str p.1, p.2]
theorem wi_items {Φ : List D → (List Cell → Prop) → List Cell → Prop} (h : wpE K td env cs fun x c => ∃ kv, x = .dat (dcD kv) ∧ Φ (kv.map pairE) (fun _ => True) c) : wpI K (iItems td) env cs Φ := fun F B H A σ s R k =>
  h F B H A σ s _ fun x c v B1 H1 A1 ⟨kv, ex, f⟩ e1 p1 s1 r1 => by
    subst ex
    obtain ⟨b, o, ws, rfl, hB, hR⟩ := rp_dcD (show Rp K B1 (dcD kv) v from r1)
    have hH := s1.eb _ _ hB
    refine ⟨b, o, ws, rfl, hH, k _ _ c _ B1 H1 A1 f e1 p1 s1 ?_⟩
    have hl : ws.length = (kv.map pairE).length := by rw [List.length_map, Paired.length hR]
    refine ⟨_, _, hl ▸ walk_items (kvs := ws) (d := b) (o := o), fun F2 B2 H2 A2 env2 cs2 σ2 e p s _ => s.eb _ _ (e _ _ hB), ?_⟩
    intro i H2 x H3 hi hy F2 B2 A2 env2 cs2 σ2 e p s _
    obtain ⟨T, y1, y2, ex, hT, e3, h1, h2⟩ := hy
    subst ex e3
    have hi2 : i < ws.length := by rw [hl]; exact hi
    have hw : ws[i]? = some ws[i] := List.getElem?_eq_getElem hi2
    obtain ⟨z, d, g1, g2, g3⟩ := DR.getP (k := ws[i].1) (v := ws[i].2) hR hw
    dsimp only at h1 h2
    rw [hw] at h1 h2
    have e5 : y1 = .str z := by
      have : kV ws[i].1 = y1 := Option.some.inj h1
      rw [← this, g2]
      rfl
    have e6 : y2 = ws[i].2 := (Option.some.inj h2).symm
    subst e5 e6
    have hr := g3.mono e
    obtain ⟨B3, e4, s3, hr4⟩ := s.pair hT (show Rp K B2 (.str z) (.str z) from rfl) hr
    exact ⟨_, _, e4, s3, by rw [List.getElem?_map, g1]; rfl, hr4⟩
end
end G
/-! dict(row of pairs) where the row is a tuple that has no dict -/
namespace G
open PySem PySem.Spec PyProof.Rows L2 TL
/-! ### a tuple that has no dict, as data -/
def xtD (ds : List D) : D := .dict [(.bool true, .tuple ds)]
section
variable {K : PySem.W.Frag} {H B : Hp}
theorem rp_xt {ds : List D} {v : V} (r : Rp K H (xtD ds) v) : ∃ a o u, v = .ref a ∧ Rp K H (.tuple ds) (.ref a) ∧ H a = some (.frz o u) ∧ o.dict = none := by
  obtain ⟨a, e, _, _, h⟩ := r
  obtain ⟨_, h2, o, u, h3, h4⟩ := h rfl
  exact ⟨a, o, u, e, h2, h3, h4⟩
theorem xt_rp {ds : List D} {a : Addr} {o : Obj} {u : HO} (r : Rp K H (.tuple ds) (.ref a)) (h : H a = some (.frz o u)) (hd : o.dict = none) : Rp K H (xtD ds) (.ref a) := by
  refine ⟨a, rfl, ?_⟩
  rw [RpM, RpX]
  exact ⟨(fun q => nomatch q), .inr rfl, fun _ => ⟨⟨ds, rfl⟩, r, o, u, h, hd⟩⟩
theorem xt_weak {ds : List D} {v : V} (r : Rp K H (xtD ds) v) : Rp K H (.tuple ds) v := by
  obtain ⟨a, o, u, e, h, _⟩ := rp_xt r
  rw [e]
  exact h
end
section
variable {K : PySem.W.Frag} {env : G.Env} {cs : List Cell} {Φ : Vl → List Cell → Prop} {te : TE} {x : Vl} {ta : TA}
theorem we_weak (h : wpE K te env cs fun x c => ∃ ds, x = .dat (xtD ds) ∧ Φ (.dat (.tuple ds)) c) : wpE K te env cs Φ := fun F B H A σ s Q q =>
  h F B H A σ s _ fun x c v B' H' A' ⟨ds, e, f⟩ e1 p1 s1 r1 => by
    subst e
    exact q _ c v B' H' A' f e1 p1 s1 (xt_weak (show Rp K B' (xtD ds) v from r1))
end
/-! ### tuples written down -/
def tTupN (t : TA) : TE := fun σ H Q => t σ H fun xs H1 => xs.length ≤ sizeLine ∧ ∀ p o, H1 p = none → o.dict = none → Q (.ref p) (upd H1 p (.frz o (.tup xs)))
section
variable {K : PySem.W.Frag} {env : G.Env} {cs : List Cell} {Φ : Vl → List Cell → Prop} {ta : TA}
theorem we_tupNX (h : wpA K ta env cs fun xs c1 => ∃ ds : List D, datsOf xs = some ds ∧ ds.length ≤ 100000 ∧ Φ (.dat (xtD ds)) c1) : wpE K (tTupN ta) env cs Φ := fun F B H A σ s Q q =>
  h F B H A σ s _ fun xs c1 vs B1 H1 A1 f e1 p1 s1 r1 => by
    obtain ⟨ds, hds, hl, f⟩ := f
    have e := datsOf_eq hds
    subst e
    have rr := RpVs.dats r1
    refine ⟨by rw [rr.length]; exact Nat.le_trans hl (by decide), fun p o hp hd => ?_⟩
    have sb : Same B1 (upd B1 p (.frz o (.tup vs))) := same_up s1.eb hp
    exact (q.on e1 p1) _ c1 _ _ _ A1 f sb (Pre.refl A1) (s1.tup hp) (xt_rp (o := o) (u := .tup vs) ⟨p, vs, rfl, .inl (.inr ⟨o, upd_same⟩), rr.mono sb⟩ upd_same hd)
theorem we_tupN (h : wpA K ta env cs fun xs c1 => ∃ ds : List D, datsOf xs = some ds ∧ ds.length ≤ 100000 ∧ Φ (.dat (.tuple ds)) c1) : wpE K (tTupN ta) env cs Φ := we_weak (we_tupNX (wpA.mono h fun xs c ⟨ds, h1, h2, f⟩ => ⟨ds, h1, h2, ds, rfl, f⟩))
end
/-! ### dict(row of pairs) -/
end G
/-! pairs sorted by the texts in front, no text twice -/
namespace G
open PySem PySem.Spec PyProof.Rows L2 TL
open PySem.W (EachIs)
noncomputable def frontKind (h : Heap) (ds : List PyData) : PyProof.Rows.KeyKind where
  toKeyOrd := listOrd itemOrd
  keyOf v := open Classical in if q : ∃ (x : Str) (d : PyData), .tuple [.str x, d] ∈ ds ∧ ∃ as, Reads h v (.tuple [.str x, d]) as then some (PySem.W.keyToks (.str q.choose)) else none
  dflt := ([] : List (Int ⊕ List Nat))
theorem reads_front {h : Heap} {v : Value} {x y : Str} {d e : PyData} {as bs : List Addr} (r : Reads h v (.tuple [.str x, d]) as) (q : Reads h v (.tuple [.str y, e]) bs) : x = y := by
  cases r with
  | tuple h1 h2 h3 h4 =>
    cases q with
    | tuple g1 g2 g3 g4 =>
      rw [h1] at g1
      cases g1
      rw [h3] at g3
      cases g3
      generalize Array.toList _ = vs at h4 g4
      cases h4 with
      | cons r1 _ =>
        cases g4 with
        | cons q1 _ =>
          cases r1
          cases q1
          rfl
theorem front_some {h : Heap} {ds : List PyData} {v : Value} {x : Str} {d : PyData} {as : List Addr} (hd : .tuple [.str x, d] ∈ ds) (r : Reads h v (.tuple [.str x, d]) as) : (frontKind h ds).keyOf v = some (PySem.W.keyToks (.str x)) := by
  have q : ∃ (x : Str) (d : PyData), .tuple [.str x, d] ∈ ds ∧ ∃ as, Reads h v (.tuple [.str x, d]) as := ⟨x, d, hd, as, r⟩
  have e : (frontKind h ds).keyOf v = some (PySem.W.keyToks (.str q.choose)) := by
    show (open Classical in if q : ∃ (x : Str) (d : PyData), .tuple [.str x, d] ∈ ds ∧ ∃ as, Reads h v (.tuple [.str x, d]) as then some (PySem.W.keyToks (.str q.choose)) else none) = _
    exact dif_pos q
  obtain ⟨d', h1, as', h2⟩ := q.choose_spec
  rw [e, reads_front h2 r]
theorem front_inv {h : Heap} {ds : List PyData} {v : Value} {k : List (Int ⊕ List Nat)} (e : (frontKind h ds).keyOf v = some k) : ∃ (x : Str) (d : PyData) (as : List Addr), .tuple [.str x, d] ∈ ds ∧ Reads h v (.tuple [.str x, d]) as ∧ k = PySem.W.keyToks (.str x) := by
  by_cases q : ∃ (x : Str) (d : PyData), .tuple [.str x, d] ∈ ds ∧ ∃ as, Reads h v (.tuple [.str x, d]) as
  · have e' : (frontKind h ds).keyOf v = some (PySem.W.keyToks (.str q.choose)) := by
      show (open Classical in if q : ∃ (x : Str) (d : PyData), .tuple [.str x, d] ∈ ds ∧ ∃ as, Reads h v (.tuple [.str x, d]) as then some (PySem.W.keyToks (.str q.choose)) else none) = _
      exact dif_pos q
    obtain ⟨d', h1, as', h2⟩ := q.choose_spec
    rw [e'] at e
    exact ⟨_, d', as', h1, h2, (Option.some.inj e).symm⟩
  · have e' : (frontKind h ds).keyOf v = none := by
      show (open Classical in if q : ∃ (x : Str) (d : PyData), .tuple [.str x, d] ∈ ds ∧ ∃ as, Reads h v (.tuple [.str x, d]) as then some (PySem.W.keyToks (.str q.choose)) else none) = _
      exact dif_neg q
    rw [e'] at e
    cases e
section
variable {prog : Program} {w : World} {A : Around} {s : Shared}
theorem sortsAt_front {vs : List Value} {ds : List PyData} (e : EachIs (fun v d => ∃ as, Reads s.heap v d as) vs ds) (hp : ∀ d, d ∈ ds → ∃ x y, d = .tuple [.str x, y] ∧ y.plain = true) (hd : ∀ x y z, PyData.tuple [.str x, y] ∈ ds → PyData.tuple [.str x, z] ∈ ds → y = z) (hu : ∀ d, d ∈ ds → A.units + d.depth < cLine) :
    PySem.W.SortsAt prog w A s (frontKind s.heap ds) vs := by
  refine ⟨fun v hv => ?_, tuples' (Value.type "str" != Value.type "tuple"), ?_, fun h2 E Q hq => ?_⟩
  · obtain ⟨d, hm, as, r⟩ := e.left v hv
    obtain ⟨x, y, rfl, _⟩ := hp d hm
    exact ⟨_, front_some hm r⟩
  · intro E a b ka kb Q ha hb hq
    obtain ⟨x, y, as, m1, r1, rfl⟩ := front_inv ha
    obtain ⟨x2, y2, as2, m2, r2, rfl⟩ := front_inv hb
    have hr1 := hu _ m1
    have hr2 := hu _ m2
    have hdep : ∀ (z : Str) (t : PyData), t.depth + 1 ≤ (PyData.tuple [.str z, t]).depth := fun z t => by
      simp [PyData.depth, PyData.depthAll]
    have hs1 : ∀ z : Str, (PyData.str z).depth = 0 := fun z => by simp [PyData.depth]
    have q1 := hdep x y
    obtain ⟨x', y', e1, hy1⟩ := hp _ m1
    obtain ⟨x2', y2', e2, hy2⟩ := hp _ m2
    cases e1
    cases e2
    cases r1 with
    | @tuple l o xs n _ _ h1 h2 h3 h4 =>
      cases r2 with
      | @tuple l' o' xs' n' _ _ k1 k2 k3 k4 =>
        have n1 : xs.size = 2 := by simpa using PySem.SeqAt.ReadsAll.length _ _ _ h4
        have n2 : xs'.size = 2 := by simpa using PySem.SeqAt.ReadsAll.length _ _ _ k4
        refine PySem.W.kat_lt h1 h3 k1 k3 ?_
        rw [n1, n2]
        generalize xs.toList = us at h4
        generalize xs'.toList = us' at k4
        cases h4 with
        | cons a1 a2 =>
          cases a2 with
          | cons a3 a4 =>
            cases a4
            cases k4 with
            | cons b1 b2 =>
              cases b2 with
              | cons b3 b4 =>
                cases b4
                refine PySem.W.kat_cons (PySem.W.eqAt_alike (.str x) (.str x2) A s _ _ _ _ a1 b1 (by simp [PySem.W.alike]) (by rw [hs1]; omega) prog w _ _ ?_)
                cases hx : PyData.eqv (.str x) (.str x2) with
                | true =>
                  have ex : x = x2 := by
                    rw [eqv_str] at hx
                    simpa using hx
                  subst ex
                  have ey := hd x y y2 m1 m2
                  subst ey
                  refine PySem.W.kat_yes (PySem.W.kat_cons (PySem.SeqAt.eqAt_plain y y A s _ _ _ _ a3 b3 hy1 hy2 (by omega) prog w _ _ ?_))
                  rw [PySem.SeqAt.eqv_refl_plain y hy1]
                  refine PySem.W.kat_yes (PySem.W.kat_nil ?_)
                  have hq' : Q (PyProof.Rows.lexLt itemOrd (PySem.W.keyToks (.str x)) (PySem.W.keyToks (.str x))) s := hq
                  rw [PyProof.Rows.lex_irrefl] at hq'
                  exact hq'
                | false => exact PySem.W.kat_no (PySem.W.oneLt_alike (fun _ xs => by simp) a1 b1 (by simp [PySem.W.alike]) (by simp) (by rw [hs1]; omega) hq)
  · obtain ⟨fs, t1, t2, t3⟩ := PySem.W.each_katTups e fun d hm => by
      obtain ⟨x, y, e1, _⟩ := hp d hm
      exact ⟨.str x, [y], e1⟩
    refine PySem.W.kat_kind (T := Value.type "str") t1 (by omega) (fun f hf => ?_) (beq_self_eq_true _) hq
    obtain ⟨x, r, as, m1, m2⟩ := t3 f hf
    obtain ⟨x', y', e1, _⟩ := hp _ m1
    cases e1
    exact PySem.W.looks_reads m2
end
theorem nodup_inj {α β : Type} {f : α → β} {a b : α} : ∀ {l : List α}, (l.map f).Nodup → a ∈ l → b ∈ l → f a = f b → a = b
  | [], _, h, _, _ => by cases h
  | x :: l, nd, h1, h2, e => by
    obtain ⟨n1, n2⟩ := List.nodup_cons.mp nd
    rcases List.mem_cons.mp h1 with e1 | h1
    · rcases List.mem_cons.mp h2 with e2 | h2
      · rw [e1, e2]
      · exact absurd (List.mem_map.mpr ⟨b, h2, by rw [← e, e1]⟩) n1
    · rcases List.mem_cons.mp h2 with e2 | h2
      · exact absurd (List.mem_map.mpr ⟨a, h1, by rw [e, e2]⟩) n1
      · exact nodup_inj n2 h1 h2 e
end G
/-! sorted(d), sorted(d.items()), row.index(x) -/
namespace G
open PySem PySem.Spec PyProof.Rows L2 TL
section
variable {K : PySem.W.Frag} {env : G.Env} {cs : List Cell} {Φ : Vl → List Cell → Prop} {x : Vl} {te : TE}
def sortS (ks : List Str) : List Str := ks.mergeSort (PySem.W.dataLe false PyData.str)
theorem sortS_rise {ks : List Str} (nd : ks.Nodup) : SRise (sortS ks) := sort_rise nd
theorem sortS_mem {ks : List Str} {k : Str} : k ∈ sortS ks ↔ k ∈ ks := List.mem_mergeSort
theorem sortS_len (ks : List Str) : (sortS ks).length = ks.length := List.length_mergeSort ..
/-- rows of (text, thing) by rising texts -/
def sortK {α : Type} (kv : List (Str × α)) : List (Str × α) := kv.mergeSort (PySem.W.dataLe false fun p => .str p.1)
theorem sortK_perm {α : Type} (kv : List (Str × α)) : (sortK kv).Perm kv := List.mergeSort_perm ..
theorem sortK_map {α β : Type} (f : α → β) (kv : List (Str × α)) : (sortK kv).map (fun p => (p.1, f p.2)) = sortK (kv.map fun p => (p.1, f p.2)) := List.map_mergeSort fun _ _ _ _ => rfl
end
end G
/-! row.index(text) -/
namespace G
open PySem PySem.Spec PyProof.Rows L2 TL
section
variable {K : PySem.W.Frag} {env : G.Env} {cs : List Cell} {Φ : Vl → List Cell → Prop} {to te : TE}
theorem IsDct.dat {kv : SD} : IsDct cs (.dat (dcD kv)) kv := .inl rfl
theorem IsDct.cel {k : Nat} {kv : SD} (h : cs[k]? = some (dctS kv)) : IsDct cs (.cel k) kv := .inr (.inl ⟨k, rfl, h⟩)
end
end G
/-! rows of (text, thing), in plain Lean -/
namespace G
open PySem PySem.Spec PyProof.Rows L2 TL
section
variable {α β : Type}
def lkA (kv : List (Str × α)) (k : Str) : Option α := (kv.find? fun p => decide (p.1 = k)).map (·.2)
def ptA (kv : List (Str × α)) (k : Str) (v : α) : List (Str × α) := if (kv.any fun p => decide (p.1 = k)) = true then kv.map (fun p => if p.1 = k then (p.1, v) else p) else kv ++ [(k, v)]
def mpA (f : α → β) (kv : List (Str × α)) : List (Str × β) := kv.map fun p => (p.1, f p.2)
theorem lkA_nil (k : Str) : lkA ([] : List (Str × α)) k = none := rfl
theorem lkA_pos {p : Str × α} {r : List (Str × α)} {k : Str} (e : p.1 = k) : lkA (p :: r) k = some p.2 := by simp [lkA, List.find?_cons, e]
theorem lkA_neg {p : Str × α} {r : List (Str × α)} {k : Str} (e : ¬ p.1 = k) : lkA (p :: r) k = lkA r k := by simp [lkA, List.find?_cons, e]
theorem lkA_any (k : Str) : ∀ kv : List (Str × α), (kv.any fun p => decide (p.1 = k)) = (lkA kv k).isSome
  | [] => rfl
  | p :: r => by
    rw [List.any_cons]
    by_cases e : p.1 = k
    · simp only [lkA_pos e, decide_eq_true e, Bool.true_or, Option.isSome_some]
    · rw [lkA_neg e, decide_eq_false e, Bool.false_or]
      exact lkA_any k r
theorem lkA_mem {k : Str} {d : α} : ∀ {kv : List (Str × α)}, lkA kv k = some d → (k, d) ∈ kv
  | [], h => by cases h
  | p :: r, h => by
    by_cases e : p.1 = k
    · rw [lkA_pos e] at h
      cases h
      rw [← e]
      exact List.mem_cons_self ..
    · rw [lkA_neg e] at h
      exact List.mem_cons_of_mem _ (lkA_mem h)
theorem lkA_none {k : Str} : ∀ {kv : List (Str × α)}, lkA kv k = none ↔ k ∉ kv.map (·.1)
  | [] => by simp [lkA_nil]
  | p :: r => by
    by_cases e : p.1 = k
    · rw [lkA_pos e]
      simp [e]
    · rw [lkA_neg e, lkA_none (kv := r), List.map_cons, List.mem_cons, not_or]
      exact ⟨fun h => ⟨fun z => e z.symm, h⟩, fun h => h.2⟩
theorem lkA_some {k : Str} {kv : List (Str × α)} : (lkA kv k).isSome = decide (k ∈ kv.map (·.1)) := by
  cases h : lkA kv k with
  | none => simp [lkA_none.mp h]
  | some d =>
    have : k ∈ kv.map (·.1) := List.mem_map.mpr ⟨(k, d), lkA_mem h, rfl⟩
    rw [decide_eq_true this]
    rfl
theorem lkA_of_mem {k : Str} {d : α} : ∀ {kv : List (Str × α)}, (kv.map (·.1)).Nodup → (k, d) ∈ kv → lkA kv k = some d
  | [], _, h => by cases h
  | p :: r, nd, h => by
    obtain ⟨h1, h2⟩ := List.nodup_cons.mp nd
    rcases List.mem_cons.mp h with e | h
    · rw [lkA_pos (by rw [← e]), ← e]
    · have hk : k ∈ r.map (·.1) := List.mem_map.mpr ⟨_, h, rfl⟩
      rw [lkA_neg (fun e => h1 (by show p.1 ∈ _; rw [e]; exact hk))]
      exact lkA_of_mem h2 h
theorem lkA_app {k : Str} {a b : List (Str × α)} : lkA (a ++ b) k = (lkA a k).or (lkA b k) := by
  unfold lkA
  rw [List.find?_append]
  cases a.find? fun p => decide (p.1 = k) <;> rfl
theorem lkA_upd {k k' : Str} {v : α} : ∀ kv : List (Str × α), lkA (kv.map fun p => if p.1 = k then (p.1, v) else p) k' = if k' = k then (lkA kv k).map fun _ => v else lkA kv k'
  | [] => by
    split <;> rfl
  | p :: r => by
    rw [List.map_cons]
    by_cases e : p.1 = k
    · rw [if_pos e]
      by_cases e2 : k' = k
      · rw [if_pos e2, lkA_pos (by rw [e2]; exact e), lkA_pos e]
        rfl
      · rw [if_neg e2, lkA_neg (by show ¬ p.1 = k'; rw [e]; exact fun z => e2 z.symm), lkA_neg (by rw [e]; exact fun z => e2 z.symm), lkA_upd r, if_neg e2]
    · rw [if_neg e]
      by_cases e2 : p.1 = k'
      · rw [lkA_pos e2, lkA_pos e2, if_neg (by rw [← e2]; exact e)]
      · rw [lkA_neg e2, lkA_upd r, lkA_neg e, lkA_neg e2]
theorem lkA_pt (kv : List (Str × α)) (k k' : Str) (v : α) : lkA (ptA kv k v) k' = if k' = k then some v else lkA kv k' := by
  unfold ptA
  rw [lkA_any]
  cases h : lkA kv k with
  | none =>
    rw [if_neg (by simp), lkA_app]
    by_cases e : k' = k
    · rw [if_pos e, e, h]
      exact lkA_pos rfl
    · rw [if_neg e, lkA_neg (p := (k, v)) (fun z => e z.symm), lkA_nil]
      cases lkA kv k' <;> rfl
  | some d =>
    rw [if_pos (by rfl), lkA_upd, h]
    rfl
theorem mpA_keys (f : α → β) (kv : List (Str × α)) : (mpA f kv).map (·.1) = kv.map (·.1) := by
  unfold mpA
  rw [List.map_map]
  rfl
end
/-! ### each text once -/
/-! ### marks -/
def optD : Option Str → D
  | none => .none
  | some z => .str z
abbrev Mk : Type := Str × Option Str
def mkD (m : Mk) : D := .tuple [.str m.1, optD m.2]
def msS (ms : List Mk) : SD := mpA optD ms
theorem ms_pairs (ms : List Mk) : (msS ms).map pairE = ms.map mkD := by
  unfold msS mpA
  rw [List.map_map]
  rfl
/-! ### going up -/
def iterO (f : Str → Option Str) : Nat → Option Str → Option Str
  | 0, o => o
  | n + 1, o => iterO f n (o.bind f)
theorem iterO_none (f : Str → Option Str) : ∀ n, iterO f n none = none
  | 0 => rfl
  | n + 1 => iterO_none f n
theorem iterO_add (f : Str → Option Str) : ∀ (m n : Nat) (o : Option Str), iterO f (m + n) o = iterO f n (iterO f m o)
  | 0, n, o => by rw [Nat.zero_add]; rfl
  | m + 1, n, o => by
    rw [Nat.add_right_comm]
    exact iterO_add f m n (o.bind f)
theorem iterO_succ (f : Str → Option Str) (n : Nat) (o : Option Str) : iterO f (n + 1) o = (iterO f n o).bind f := by
  rw [iterO_add f n 1 o]
  rfl
def NoRing (f : Str → Option Str) : Prop := ∀ (n : Nat) (a : Str), iterO f (n + 1) (some a) ≠ some a
/-- more steps than places: one is met twice -/
theorem pigeon {L : List Str} (x : Nat → Str) : ∀ n, L.length < n → (∀ i, i < n → x i ∈ L) → ∃ i j, i < j ∧ j < n ∧ x i = x j := fun n hn hx => Classical.byContradiction fun hno => by
  have nd : ((List.range n).map x).Nodup := by
    rw [List.nodup_iff_pairwise_ne, List.pairwise_map]
    refine (List.pairwise_lt_range (n := n)).imp_of_mem fun {a b} ha hb hab e => hno ⟨a, b, hab, List.mem_range.mp hb, e⟩
  have := len_le_of nd (fun k hk => by
    obtain ⟨i, hi, rfl⟩ := List.mem_map.mp hk
    exact hx i (List.mem_range.mp hi))
  rw [List.length_map, List.length_range] at this
  omega
/-- without a ring a way up is no longer than the places that have an elder -/
theorem way_bound {f : Str → Option Str} {L : List Str} (hL : ∀ a b, f a = some b → a ∈ L) (nr : NoRing f) {o : Option Str} {n : Nat} (h : iterO f n o ≠ none) : n ≤ L.length := Classical.byContradiction fun hlt => by
  have hs : ∀ i, i ≤ n → ∃ y, iterO f i o = some y := fun i hi => by
    cases q : iterO f i o with
    | some y => exact ⟨y, rfl⟩
    | none =>
      have e : n = i + (n - i) := by omega
      rw [e, iterO_add, q, iterO_none] at h
      exact absurd rfl h
  obtain ⟨x, hx⟩ : ∃ x : Nat → Str, ∀ i, i ≤ n → iterO f i o = some (x i) := ⟨fun i => (iterO f i o).getD default, fun i hi => by
    obtain ⟨y, hy⟩ := hs i hi
    show iterO f i o = some ((iterO f i o).getD default)
    rw [hy]
    rfl⟩
  have hm : ∀ i, i < n → x i ∈ L := fun i hi => by
    have h1 := hx (i + 1) hi
    rw [iterO_succ, hx i (by omega)] at h1
    exact hL _ _ h1
  obtain ⟨i, j, hij, hj, e⟩ := pigeon x n (by omega) hm
  have h1 : iterO f j o = iterO f (j - i) (iterO f i o) := by
    rw [← iterO_add, Nat.add_sub_cancel' (by omega)]
  rw [hx i (by omega), hx j (by omega), ← e] at h1
  have e2 : j - i = (j - i - 1) + 1 := by omega
  rw [e2] at h1
  exact nr _ _ h1.symm
/-! ### places -/
theorem cb_dct {m : Nat} {kv : SD} : CellB m (dctS kv) := fun p hp => by
  obtain ⟨q, _, rfl⟩ := List.mem_map.mp hp
  trivial
theorem SRise.nodup {ys : List Str} (h : SRise ys) : ys.Nodup := by
  rw [List.nodup_iff_pairwise_ne]
  refine h.imp fun {a b} hab e => ?_
  rw [e] at hab
  exact str_irr hab
end G
/-! Tuples told to have no dict, where a tuple will do. -/
open PySem PySem.Spec PyProof.Rows L2 TL
namespace G
section
variable {K : PySem.W.Frag} {env : G.Env} {cs : List Cell} {Φ : Vl → List Cell → Prop} {ds : List D} {x y : Vl} {r : R2}
theorem rpv_weak {B : Hp} {A : List Addr} {v : V} (h : RpV K B A (.dat (xtD ds)) v) : RpV K B A (.dat (.tuple ds)) v := xt_weak (show Rp K B (xtD ds) v from h)
theorem wx_weak {r : V → Option Int → Option Int → Hp → VK → Prop} {lo hi : Option Int} (h : wpX K r (.dat (.tuple ds)) lo hi env cs Φ) : wpX K r (.dat (xtD ds)) lo hi env cs Φ := fun F B H A σ v s r1 Q q => h F B H A σ v s (rpv_weak r1) Q q
theorem wrl_weak (h : wpR K r (.dat (.tuple ds)) y env cs Φ) : wpR K r (.dat (xtD ds)) y env cs Φ := fun F B H A σ v w s r1 r2 Q q => h F B H A σ v w s (rpv_weak r1) r2 Q q
theorem wrr_weak (h : wpR K r x (.dat (.tuple ds)) env cs Φ) : wpR K r x (.dat (xtD ds)) env cs Φ := fun F B H A σ v w s r1 r2 Q q => h F B H A σ v w s r1 (rpv_weak r2) Q q
end
/-- plain data of bounded depth -/
def PD (n : Nat) (d : D) : Prop := d.plain = true ∧ d.depth ≤ n
theorem PD.up {m n : Nat} {d : D} (h : PD m d) (l : m ≤ n) : PD n d := ⟨h.1, Nat.le_trans h.2 l⟩
theorem plainAll_of : ∀ {ds : List D}, (∀ d, d ∈ ds → d.plain = true) → PyData.plainAll ds = true
  | [], _ => rfl
  | d :: ds, h => by
    rw [PyData.plainAll, h d (List.mem_cons_self ..), plainAll_of fun x hx => h x (List.mem_cons_of_mem _ hx)]
    rfl
theorem depthAll_of {n : Nat} : ∀ {ds : List D}, (∀ d, d ∈ ds → d.depth ≤ n) → PyData.depthAll ds ≤ n
  | [], _ => by simp [PyData.depthAll]
  | d :: ds, h => by
    rw [PyData.depthAll]
    exact Nat.max_le.mpr ⟨h d (List.mem_cons_self ..), depthAll_of fun x hx => h x (List.mem_cons_of_mem _ hx)⟩
theorem pd_tup {n : Nat} {ds : List D} (h : ∀ d, d ∈ ds → PD n d) : PD (n + 1) (.tuple ds) := ⟨by
  rw [PyData.plain]
  exact plainAll_of fun d hd => (h d hd).1, by
  rw [PyData.depth]
  have := depthAll_of fun d hd => (h d hd).2
  omega⟩
theorem pd_str {n : Nat} {z : Str} : PD n (.str z) := ⟨rfl, by simp [PyData.depth]⟩
theorem pd_int {n : Nat} {z : Int} : PD n (.int z) := ⟨rfl, by simp [PyData.depth]⟩
theorem pd_none {n : Nat} : PD n .none := ⟨rfl, by simp [PyData.depth]⟩
theorem pd_map {α : Type} {f : α → D} {n : Nat} {xs : List α} (h : ∀ x, x ∈ xs → PD n (f x)) : ∀ d, d ∈ xs.map f → PD n d := fun d hd => by
  obtain ⟨x, hx, rfl⟩ := List.mem_map.mp hd
  exact h x hx
theorem pd_nil {n : Nat} : ∀ d, d ∈ ([] : List D) → PD n d := fun _ h => nomatch h
theorem pd_cons {n : Nat} {d : D} {ds : List D} (h : PD n d) (t : ∀ x, x ∈ ds → PD n x) : ∀ x, x ∈ d :: ds → PD n x := fun x hx => by
  rcases List.mem_cons.mp hx with rfl | hx
  · exact h
  · exact t x hx
theorem pd_lr (l : Lr) : PD 60 (lrD l) := ⟨lr_plain, lr_depth⟩
section
variable {K : PySem.W.Frag} {env : G.Env} {cs : List Cell} {Φ : Vl → List Cell → Prop} {x y : Vl} {d e : D} {n : Nat}
theorem wr_eqP (hx : DatOf cs x d) (hy : DatOf cs y e) (pd : PD 64 d) (pe : e.plain = true) (f : Φ (.dat (.bool (PyData.eqv d e))) cs) : wpR K (gEq K) x y env cs Φ := wr_eq hx hy pd.1 pe (Nat.le_trans (Nat.min_le_left _ _) pd.2) f
/-- the same twice -/
theorem wr_eqR (hx : DatOf cs x d) (hy : DatOf cs y d) (pd : PD 64 d) (f : Φ (.dat (.bool true)) cs) : wpR K (gEq K) x y env cs Φ := wr_eqP hx hy pd pd.1 (by rw [PySem.SeqAt.eqv_refl_plain _ pd.1]; exact f)
end
theorem lrD_mk (nm : Str) (day : Int) (hd : Str) (row : List Str) : lrD (nm, day, hd, row) = .tuple [.str nm, .int day, .str hd, .tuple (row.map .str)] := rfl
end G
/-! The least and the greatest of a list of data. -/
open PySem PySem.Spec PyProof.Rows L2 TL
namespace G
/-! ### the least of typed things -/
def minA {α : Type} (lt : α → α → Bool) (x : α) (xs : List α) : α := xs.foldl (fun a y => if lt y a then y else a) x
theorem minD_mapA {α : Type} (f : α → D) (lt : α → α → Bool) (h : ∀ a b, PySem.W.dataLt (f a) (f b) = lt a b) (x : α) (xs : List α) : PySem.W.minD (f x) (xs.map f) = f (minA lt x xs) := by
  unfold PySem.W.minD minA
  induction xs generalizing x with
  | nil => rfl
  | cons y ys ih =>
    rw [List.map_cons, List.foldl_cons, List.foldl_cons, h]
    by_cases e : lt y x = true
    · rw [if_pos e, if_pos e, ih]
    · rw [if_neg e, if_neg e, ih]
end G
/-! Chosen elders, in plain Lean. -/
open PySem PySem.Spec PyProof.Rows L2 TL
namespace G
/-- day, teller, place, elder -/
abbrev Cl : Type := Int × Str × Nat × Str
def clD (c : Cl) : D := .tuple [.int c.1, .str c.2.1, .int (c.2.2.1 : Nat), .str c.2.2.2]
def clLt (a b : Cl) : Bool := PySem.W.dataLt (clD a) (clD b)
inductive Rsn where
  | hand | own | first
  | told (one : Str) (at_ : Nat)
  | ring (r : List Str)
  | heads (t : Str)
def rsnD : Rsn → D
  | .hand => .tuple [.str (Str.ofString "hand")]
  | .own => .tuple [.str (Str.ofString "own")]
  | .first => .tuple [.str (Str.ofString "first")]
  | .told one k => .tuple [.str (Str.ofString "told"), .str one, .int (k : Nat)]
  | .ring r => .tuple [.str (Str.ofString "ring"), .tuple (r.map .str)]
  | .heads t => .tuple [.str (Str.ofString "heads"), .str t]
abbrev Ch : Type := Option Str × Rsn
def chD (c : Ch) : D := .tuple [optD c.1, rsnD c.2]
theorem opt_pd {n : Nat} (o : Option Str) : PD n (optD o) := by
  cases o with
  | none => exact pd_none
  | some z => exact pd_str
/-! ### dicts put together -/
/-! ### claims -/
def minO (o : Option Cl) (c : Cl) : Option Cl := if o.all (fun d => clLt c d) then some c else o
/-- the claim that a letter tells of a name -/
def clmOf (n : Str) (l : Lr) : Option Cl := if n ∈ (eldersL l.1 l.2.2.2).drop 1 then some (l.2.1, l.1, (eldersL l.1 l.2.2.2).idxOf n, (eldersL l.1 l.2.2.2).getD ((eldersL l.1 l.2.2.2).idxOf n - 1) default) else none
/-- the least claim of a name -/
def leastC (ls : List Lr) (n : Str) : Option Cl := ((standL ls).filterMap (clmOf n)).foldl minO none
theorem foldl_minO (c : Cl) : ∀ cs : List Cl, cs.foldl minO (some c) = some (minA clLt c cs)
  | [] => rfl
  | d :: cs => by
    have e : minO (some c) d = some (if clLt d c then d else c) := by
      unfold minO
      simp only [Option.all_some]
      split <;> rfl
    rw [List.foldl_cons, e, foldl_minO _ cs]
    rfl
theorem foldl_minO_nil (cs : List Cl) : cs.foldl minO none = match cs with
  | [] => none
  | c :: cs => some (minA clLt c cs) := by
  cases cs with
  | nil => rfl
  | cons c cs =>
    rw [List.foldl_cons]
    exact foldl_minO c cs
/-! ### the choice -/
def firstC : Ch := (none, .first)
def ownC (l : Lr) : Ch := match (eldersL l.1 l.2.2.2).getLast? with
  | none => firstC
  | some e => (some e, .own)
def tellC (c : Cl) : Ch := (some c.2.2.2, .told c.2.1 c.2.2.1)
def ownsL (ls : List Lr) : List (Str × Ch) := (standL ls).map fun l => (l.1, ownC l)
def handsL (ms : List Mk) : List (Str × Ch) := ms.map fun m => (m.1, (m.2, .hand))
/-- the chosen elder and the reason -/
def chsO (ls : List Lr) (ms : List Mk) (n : Str) : Option Ch := (lkA (handsL ms) n).or ((lkA (ownsL ls) n).or ((leastC ls n).map tellC))
def chs (ls : List Lr) (ms : List Mk) (n : Str) : Ch := (chsO ls ms n).getD firstC
theorem handsL_keys (ms : List Mk) : (handsL ms).map (·.1) = ms.map (·.1) := by
  unfold handsL
  rw [List.map_map]
  rfl
theorem ownsL_keys (ls : List Lr) : (ownsL ls).map (·.1) = (standL ls).map (·.1) := by
  unfold ownsL
  rw [List.map_map]
  rfl
theorem standA_names : ∀ {ls : List Lr} {o : Option Str}, PRise ls → (∀ n, o = some n → ∀ l, l ∈ ls → n = l.1 ∨ PySem.W.dataLt (.str n) (.str l.1) = true) → SRise ((standA o ls).map (·.1)) ∧ ∀ n, o = some n → ∀ l, l ∈ standA o ls → PySem.W.dataLt (.str n) (.str l.1) = true
  | [], o, _, _ => ⟨List.Pairwise.nil, fun _ _ _ h => nomatch h⟩
  | l :: ls, o, hp, ho => by
    have ht := hp.tail
    have hh := hp.head
    rw [standA]
    by_cases e : o = some l.1
    · rw [if_pos e]
      exact standA_names ht fun n hn x hx => ho n hn x (List.mem_cons_of_mem _ hx)
    · rw [if_neg e]
      obtain ⟨i1, i2⟩ := standA_names (o := some l.1) ht fun n hn x hx => by
        cases hn
        exact hh x hx
      refine ⟨?_, fun n hn x hx => ?_⟩
      · rw [List.map_cons]
        exact List.pairwise_cons.mpr ⟨fun z hz => by
          obtain ⟨y, hy, rfl⟩ := List.mem_map.mp hz
          exact i2 _ rfl y hy, i1⟩
      · have hl : PySem.W.dataLt (.str n) (.str l.1) = true := by
          rcases ho n hn l (List.mem_cons_self ..) with h | h
          · exact absurd (by rw [hn, h]) e
          · exact h
        rcases List.mem_cons.mp hx with rfl | hx
        · exact hl
        · exact str_trans hl (i2 _ rfl x hx)
theorem stand_rise {ls : List Lr} (h : PRise ls) : SRise ((standL ls).map (·.1)) := (standA_names (o := none) h fun _ h => nomatch h).1
end G
/-! Calls that change one cell; dicts made data amid a block. -/
open PySem PySem.Spec PyProof.Rows L2 TL
namespace G
abbrev MutAS (pre : Cell → List D → D → Cell → Prop) : AS := fun args cs Φ => ∃ (c : Cell) (ds : List D) (r : D) (c' : Cell), args = .cel 0 :: ds.map .dat ∧ cs = [c] ∧ CellB 0 c ∧ CellB 0 c' ∧ pre c ds r c' ∧ Φ (.dat r) [c']
def Mut1 (pre : Cell → List D → D → Cell → Prop) (xs : List Vl) (c1 : List Cell) (Φ : Vl → List Cell → Prop) : Prop := ∃ (k : Nat) (c : Cell) (ds : List D) (r : D) (c' : Cell), xs = .cel k :: ds.map .dat ∧ c1[k]? = some c ∧ CellB 0 c ∧ CellB 0 c' ∧ pre c ds r c' ∧ Φ (.dat r) (c1.set k c')
section
variable {K : PySem.W.Frag} {env : G.Env} {cs : List Cell} {Φ : Vl → List Cell → Prop} {ta : TA}
theorem cl_mut {pre : Cell → List D → D → Cell → Prop} {E : XK} (h : wpA K ta env cs fun xs c1 => Mut1 pre xs c1 Φ) : wpE K (tCall (conc K (MutAS pre)) [] E ta) env cs Φ :=
  we_call1 fun F B H A σ s Q q => h F B H A σ s Q fun xs cs' vs B' H' A' ⟨k, c, ds, r, c', e, hc, hb, hb', hp, hq⟩ => q xs cs' vs B' H' A'
    ⟨k, ds, c, fun x cc => x = .dat r ∧ cc = [c'], e, hc, hb, ⟨c, ds, r, c', rfl, rfl, hb, hb', hp, rfl, rfl⟩, fun x cc ⟨e1, e2⟩ => ⟨c', hb', .inl ⟨r, e1, e2, hq⟩⟩⟩
end
section
variable {K : PySem.W.Frag} {env : G.Env} {cs : List Cell} {Φ : Vl → List Cell → Prop} {y : Vl} {l : Lr} {q : Mk} {c : Cl}
theorem wu_lr0 (f : Φ (.dat (.str l.1)) cs) : wpR K (gIx K) (.dat (lrD l)) (.dat (.int 0)) env cs Φ := wu_ixT rfl rfl (atI_nat (j := 0) rfl) f
theorem wu_lr1 (f : Φ (.dat (.int l.2.1)) cs) : wpR K (gIx K) (.dat (lrD l)) (.dat (.int 1)) env cs Φ := wu_ixT rfl rfl (atI_nat (j := 1) rfl) f
theorem wu_lr2 (f : Φ (.dat (.str l.2.2.1)) cs) : wpR K (gIx K) (.dat (lrD l)) (.dat (.int 2)) env cs Φ := wu_ixT rfl rfl (atI_nat (j := 2) rfl) f
theorem wu_lr3 (f : Φ (.dat (.tuple (l.2.2.2.map .str))) cs) : wpR K (gIx K) (.dat (lrD l)) (.dat (.int 3)) env cs Φ := wu_ixT rfl rfl (atI_nat (j := 3) rfl) f
theorem wu_mk0 (f : Φ (.dat (.str q.1)) cs) : wpR K (gIx K) (.dat (mkD q)) (.dat (.int 0)) env cs Φ := wu_ixT rfl rfl (atI_nat (j := 0) rfl) f
theorem wu_mk1 (f : Φ (.dat (optD q.2)) cs) : wpR K (gIx K) (.dat (mkD q)) (.dat (.int 1)) env cs Φ := wu_ixT rfl rfl (atI_nat (j := 1) rfl) f
theorem wu_cl0 (f : Φ (.dat (.int c.1)) cs) : wpR K (gIx K) (.dat (clD c)) (.dat (.int 0)) env cs Φ := wu_ixT rfl rfl (atI_nat (j := 0) rfl) f
theorem wu_cl1 (f : Φ (.dat (.str c.2.1)) cs) : wpR K (gIx K) (.dat (clD c)) (.dat (.int 1)) env cs Φ := wu_ixT rfl rfl (atI_nat (j := 1) rfl) f
theorem wu_cl2 (f : Φ (.dat (.int (c.2.2.1 : Nat))) cs) : wpR K (gIx K) (.dat (clD c)) (.dat (.int 2)) env cs Φ := wu_ixT rfl rfl (atI_nat (j := 2) rfl) f
theorem wu_cl3 (f : Φ (.dat (.str c.2.2.2)) cs) : wpR K (gIx K) (.dat (clD c)) (.dat (.int 3)) env cs Φ := wu_ixT rfl rfl (atI_nat (j := 3) rfl) f
theorem wu_ch0 {c : Ch} (f : Φ (.dat (optD c.1)) cs) : wpR K (gIx K) (.dat (chD c)) (.dat (.int 0)) env cs Φ := wu_ixT rfl rfl (atI_nat (j := 0) rfl) f
theorem wu_ch1 {c : Ch} (f : Φ (.dat (rsnD c.2)) cs) : wpR K (gIx K) (.dat (chD c)) (.dat (.int 1)) env cs Φ := wu_ixT rfl rfl (atI_nat (j := 1) rfl) f
end
theorem find_map {β : Type} {f : Lr → β} (n : Str) : ∀ xs : List Lr, lkA (xs.map fun l => (l.1, f l)) n = (xs.filter fun l => decide (l.1 = n)).head?.map f
  | [] => rfl
  | l :: xs => by
    rw [List.map_cons, List.filter_cons]
    by_cases e : l.1 = n
    · rw [lkA_pos (p := (l.1, f l)) e, if_pos (by simpa using e)]
      rfl
    · rw [lkA_neg (p := (l.1, f l)) e, if_neg (by simpa using e), find_map n xs]
theorem owns_lk (ls : List Lr) (n : Str) : lkA (ownsL ls) n = ((standL ls).filter fun l => decide (l.1 = n)).head?.map ownC := find_map n _
theorem XB.mk0 {cs : List Cell} {a : Bool} : XB a cs a cs := ⟨rfl, [], by rw [List.append_nil]⟩
theorem XE.mk0 {cs : List Cell} {d : D} : XE d cs (.dat d) cs := ⟨rfl, [], by rw [List.append_nil]⟩
end G
/-! Data compared by >, >=, <=. -/
open PySem PySem.Spec PyProof.Rows L2 TL
namespace G
end G
/-! Packs in plain Lean: order, who stands. -/
open PySem PySem.Spec PyProof.Rows L2 TL
namespace G
theorem dlt_irr (d : D) : PySem.W.dataLt d d = false := PyProof.Rows.lex_irrefl _
theorem dlt_trans {a b c : D} (h : PySem.W.dataLt a b = true) (g : PySem.W.dataLt b c = true) : PySem.W.dataLt a c = true := PyProof.Rows.lex_trans _ _ _ h g
theorem dlt_asymm {a b : D} (h : PySem.W.dataLt a b = true) : PySem.W.dataLt b a = false := by
  cases g : PySem.W.dataLt b a with
  | false => rfl
  | true =>
    have := dlt_trans h g
    rw [dlt_irr] at this
    cases this
theorem eqv_strsA : ∀ a b : List Str, PyData.eqvAll (a.map .str) (b.map .str) = decide (a = b)
  | [], [] => by simp [PyData.eqvAll]
  | [], _ :: _ => by simp [PyData.eqvAll]
  | _ :: _, [] => by simp [PyData.eqvAll]
  | x :: a, y :: b => by
    rw [List.map_cons, List.map_cons, PyData.eqvAll, eqv_str, eqv_strsA a b]
    by_cases h1 : x = y <;> by_cases h2 : a = b <;> simp [h1, h2]
theorem eqv_intD (a b : Int) : PyData.eqv (.int a) (.int b) = decide (a = b) := by
  by_cases h : a = b <;> simp [PyData.eqv, h]
theorem lr_eqv (a b : Lr) : PyData.eqv (lrD a) (lrD b) = decide (a = b) := by
  obtain ⟨a1, a2, a3, a4⟩ := a
  obtain ⟨b1, b2, b3, b4⟩ := b
  have e : PyData.eqv (.tuple (a4.map .str)) (.tuple (b4.map .str)) = decide (a4 = b4) := by
    rw [PyData.eqv, eqv_strsA]
  rw [lrD_mk, lrD_mk, PyData.eqv, PyData.eqvAll, PyData.eqvAll, PyData.eqvAll, PyData.eqvAll, PyData.eqvAll, eqv_str, eqv_intD, eqv_str, e]
  by_cases h1 : a1 = b1 <;> by_cases h2 : a2 = b2 <;> by_cases h3 : a3 = b3 <;> by_cases h4 : a4 = b4 <;> simp [h1, h2, h3, h4]
theorem PRise.nodup {ls : List Lr} (h : PRise ls) : ls.Nodup := by
  have h2 := List.pairwise_map.mp h
  refine List.nodup_iff_pairwise_ne.mpr (h2.imp fun {a b} q e => ?_)
  rw [e, dlt_irr] at q
  cases q
def sortR (ls : List Lr) : List Lr := ls.mergeSort (PySem.W.dataLe false lrD)
theorem sortR_mem {ls : List Lr} {l : Lr} : l ∈ sortR ls ↔ l ∈ ls := List.mem_mergeSort
theorem sortR_len (ls : List Lr) : (sortR ls).length = ls.length := List.length_mergeSort ..
theorem sortD_lr (ls : List Lr) : sortD (ls.map lrD) = (sortR ls).map lrD := (List.map_mergeSort (f := lrD) (r := PySem.W.dataLe false lrD) (s := PySem.W.dataLe false id) (l := ls) fun _ _ _ _ => rfl).symm
theorem standA_all : ∀ (ls : List Lr) (o : Option Str) (l : Lr), l ∈ ls → o = some l.1 ∨ ∃ x, x ∈ standA o ls ∧ x.1 = l.1
  | x :: ls, o, l, h => by
    rw [standA]
    by_cases e : o = some x.1
    · rw [if_pos e]
      rcases List.mem_cons.mp h with rfl | h
      · exact .inl e
      · exact standA_all ls o l h
    · rw [if_neg e]
      rcases List.mem_cons.mp h with rfl | h
      · exact .inr ⟨l, List.mem_cons_self .., rfl⟩
      · rcases standA_all ls (some x.1) l h with q | ⟨y, hy, q⟩
        · exact .inr ⟨x, List.mem_cons_self .., Option.some.inj q⟩
        · exact .inr ⟨y, List.mem_cons_of_mem _ hy, q⟩
theorem stand_all {ls : List Lr} {l : Lr} (h : l ∈ ls) : ∃ x, x ∈ standL ls ∧ x.1 = l.1 := (standA_all ls none l h).resolve_left fun h => nomatch h
theorem filter_one : ∀ {xs : List Lr} {l : Lr}, (xs.map (·.1)).Nodup → l ∈ xs → (xs.filter fun x => decide (x.1 = l.1)) = [l]
  | x :: xs, l, nd, h => by
    have h2 := List.nodup_cons.mp (show (x.1 :: xs.map (·.1)).Nodup from nd)
    rw [List.filter_cons]
    rcases List.mem_cons.mp h with rfl | h
    · rw [if_pos (by simp)]
      have : (xs.filter fun x => decide (x.1 = l.1)) = [] := List.filter_eq_nil_iff.mpr fun y hy e => h2.1 (by
        have := of_decide_eq_true e
        exact List.mem_map.mpr ⟨y, hy, this⟩)
      rw [this]
    · have : ¬ x.1 = l.1 := fun e => h2.1 (by rw [e]; exact List.mem_map.mpr ⟨l, h, rfl⟩)
      rw [if_neg (by simpa using this)]
      exact filter_one h2.2 h
theorem stand_one {ls : List Lr} (hp : PRise ls) {l : Lr} (h : l ∈ standL ls) : ((standL ls).filter fun x => decide (x.1 = l.1)) = [l] := filter_one (stand_rise hp).nodup h
theorem owns_of {ls : List Lr} (hp : PRise ls) {l : Lr} (h : l ∈ standL ls) : lkA (ownsL ls) l.1 = some (ownC l) := by
  rw [owns_lk, stand_one hp h]
  rfl
end G
/-! sorted of a list of pairs with texts ahead. -/
open PySem PySem.Spec PyProof.Rows L2 TL
namespace G
section
variable {P : Program} {w : World} {A : Around} {s : Shared}
open PySem.W in
theorem sorted_front {E : Value → Shared → Prop} {β : Type} {vs : List Value} {bs : List β} {key : β → Str} {val : β → PyData} {R : Value → β → Prop} {l : Addr} {Q : Value → Shared → Prop} (hl : s.heap.IsList l vs.toArray) (e : EachIs R vs bs) (er : EachIs (fun v b => ∃ as, Reads s.heap v (.tuple [.str (key b), val b]) as) vs bs)
    (hp : ∀ b, b ∈ bs → (val b).plain = true) (hd : ∀ b c, b ∈ bs → c ∈ bs → key b = key c → val b = val c) (hL : bs.length ≤ sizeLine) (hu : ∀ b, b ∈ bs → A.units + 2 + (PyData.tuple [.str (key b), val b]).depth < cLine)
    (h : ∀ out, out.length = bs.length → EachIs R out (bs.mergeSort (PySem.W.dataLe false fun b => .str (key b))) → Q (.ref (s.heap.objs.size + 1)) { s with heap := sortedAll s.heap vs (List.toArray out) }) :
    wpAny (model P w) A (call (.builtin "sorted") [.ref l]) Q E s := by
  have er2 : EachIs (fun v b => ∃ as, Reads (sortingHeap (copyHeap s.heap vs) (s.heap.objs.size + 1) vs) v (.tuple [.str (key b), val b]) as) vs bs := er.mono fun _ _ ⟨as, r⟩ => ⟨as, PyProof.Rows.Reads.keeps (fun _ _ => sorting_copy_old) r⟩
  have em : EachIs (fun v d => ∃ as, Reads (sortingHeap (copyHeap s.heap vs) (s.heap.objs.size + 1) vs) v d as) vs (bs.map fun b => PyData.tuple [.str (key b), val b]) := PySem.W.each_map (R := fun v d => ∃ as, Reads (sortingHeap (copyHeap s.heap vs) (s.heap.objs.size + 1) vs) v d as) (fun b => PyData.tuple [.str (key b), val b]) er2
  refine sorted_vals (κ := frontKind (sortingHeap (copyHeap s.heap vs) (s.heap.objs.size + 1) vs) (bs.map fun b => PyData.tuple [.str (key b), val b])) hl (sortsAt_front (s := { s with heap := sortingHeap (copyHeap s.heap vs) (s.heap.objs.size + 1) vs }) em (fun d hm => ?_) (fun x y z m1 m2 => ?_) fun d hm => ?_) (by rw [e.length]; exact hL) (h _ (by rw [sortVals_length false rfl]; exact e.length) ?_)
  · obtain ⟨b, hb, rfl⟩ := List.mem_map.mp hm
    exact ⟨_, _, rfl, hp b hb⟩
  · obtain ⟨b, hb, e1⟩ := List.mem_map.mp m1
    obtain ⟨c, hc, e2⟩ := List.mem_map.mp m2
    injection e1 with e1
    injection e2 with e2
    injection e1 with k1 t1
    injection e2 with k2 t2
    injection k1 with k1
    injection k2 with k2
    injection t1 with t1
    injection t2 with t2
    rw [← t1, ← t2]
    exact hd b c hb hc (k1.trans k2.symm)
  · obtain ⟨b, hb, rfl⟩ := List.mem_map.mp hm
    exact hu b hb
  · exact PySem.W.sortVals_each (κ := frontKind (sortingHeap (copyHeap s.heap vs) (s.heap.objs.size + 1) vs) (bs.map fun b => PyData.tuple [.str (key b), val b])) (fun b => PySem.W.keyToks (.str (key b))) e ((PySem.W.each_mem er2).mono fun v b ⟨⟨as, r⟩, hb⟩ => front_some (List.mem_map.mpr ⟨b, hb, rfl⟩) r)
end
abbrev BP : Type := V × Str × D
def gSortedP (K : PySem.W.Frag) : List V → Hp → VK → Prop := fun vs H Q => ∃ (p : Addr) (bs : List BP), vs = [.ref p] ∧ SqL K H p (bs.map (·.1)) ∧ (∀ b, b ∈ bs → Rp K H (pairE b.2) b.1 ∧ b.2.2.plain = true ∧ b.2.2.depth ≤ 50) ∧ (∀ b c, b ∈ bs → c ∈ bs → b.2.1 = c.2.1 → b.2.2 = c.2.2) ∧
  ∀ q, H q = none → Q (.ref q) (upd H q (.lst ((bs.mergeSort (PySem.W.dataLe false fun b => .str b.2.1)).map (·.1))))
section
variable {X : Cx} {K : PySem.W.Frag}
theorem each_valsP : ∀ {bs : List BP} {us : List Value}, Vals (bs.map (·.1)) us → PySem.W.EachIs (fun v (b : BP) => RelV b.1 v) us bs
  | [], _, r => by
    cases r
    exact .nil
  | b :: bs, _, r => by
    cases r with
    | cons r1 r2 => exact .cons r1 (each_valsP r2)
theorem vals_eachP : ∀ {bs : List BP} {us : List Value}, PySem.W.EachIs (fun v (b : BP) => RelV b.1 v) us bs → Vals (bs.map (·.1)) us
  | _, _, .nil => .nil
  | _, _, .cons h t => .cons h (vals_eachP t)
theorem kc_sortedP (hK : X.K = K) (hu : X.A.units + 64 < cLine) : CallR X (.builtin "sorted") (gSortedP K) := by
  subst hK
  intro pins s σ H vs us Q I r h
  obtain ⟨p, bs, rfl, hs, hb, hk, q⟩ := h
  obtain ⟨its, rv, hl, hz⟩ := I.list hs
  rw [Vals.ref1 r]
  have e := each_valsP rv
  have hlen := rv.length
  rw [List.length_map] at hlen
  refine sorted_front (key := fun b : BP => b.2.1) (val := fun b => b.2.2) hl.isList e (each_and e fun u b hm hr => Rp.reads I (pairE b.2) b.1 u (by simp [pairE, PyData.plain, PyData.plainAll, (hb b hm).2.1]) (hb b hm).1 hr) (fun b hm => (hb b hm).2.1) hk (by rw [List.length_map] at hz; exact hz) (fun b hm => by have := (hb b hm).2.2; simp [PyData.depth, PyData.depthAll]; omega) fun out ho eo => ?_
  obtain ⟨ep, he'⟩ := PyProof.Rows.sortedAll_at s.heap its out.toArray
  refine ⟨.ref _, upd H (s.heap.objs.size + 1) (.lst ((bs.mergeSort (PySem.W.dataLe false fun b => .str b.2.1)).map (·.1))), I.laid (t' := s.toks) (fun _ _ => PyProof.Rows.sortedAll_old) (Nat.le_succ _) ⟨?_, out, ep, vals_eachP eo, ?_⟩, rfl, q _ (I.hok.fresh (Nat.le_succ _))⟩
  · rw [List.length_map, List.length_mergeSort]
    rw [List.length_map] at hz
    exact hz
  · simpa using he'
def gSortedA (K : PySem.W.Frag) : List V → Hp → VK → Prop := fun vs H Q => gSorted K vs H Q ∨ gSortedP K vs H Q
theorem kc_sortedA (hK : X.K = K) (hu : X.A.units + 64 < cLine) : CallR X (.builtin "sorted") (gSortedA K) := fun pins s σ H vs us Q I r h => h.elim (fun h => kc_sorted hK hu pins s σ H vs us Q I r h) (fun h => kc_sortedP hK hu pins s σ H vs us Q I r h)
end
section
variable {K : PySem.W.Frag} {env : G.Env} {cs : List Cell} {Φ : Vl → List Cell → Prop} {x : Vl}
theorem rpl_zipP {B : Hp} : ∀ {kv : SD} {vs : List V}, RpL K B (kv.map pairE) vs → ∃ bs : List BP, bs.map (·.1) = vs ∧ bs.map (·.2) = kv ∧ ∀ b, b ∈ bs → Rp K B (pairE b.2) b.1
  | [], _, h => by
    have e : _ = [] := h
    exact ⟨[], by rw [e]; rfl, rfl, fun _ h => nomatch h⟩
  | p :: kv, _, ⟨v, r, e1, h1, h2⟩ => by
    obtain ⟨bs, q1, q2, q3⟩ := rpl_zipP h2
    refine ⟨(v, p) :: bs, by rw [e1, ← q1]; rfl, by rw [← q2]; rfl, fun b hb => ?_⟩
    rcases List.mem_cons.mp hb with rfl | hb
    · exact h1
    · exact q3 b hb
theorem rpl_pairsP {B : Hp} : ∀ {bs : List BP}, (∀ b, b ∈ bs → Rp K B (pairE b.2) b.1) → RpL K B (bs.map fun b => pairE b.2) (bs.map (·.1))
  | [], _ => rfl
  | b :: bs, h => ⟨_, _, rfl, h b (List.mem_cons_self ..), rpl_pairsP fun c hc => h c (List.mem_cons_of_mem _ hc)⟩
theorem wc_sortedP {kv : SD} (hx : DatOf cs x (.list (kv.map pairE))) (hp : ∀ p, p ∈ kv → PD 50 p.2) (hk : ∀ p q, p ∈ kv → q ∈ kv → p.1 = q.1 → p.2 = q.2) (f : Φ (.cel cs.length) (cs ++ [.lst (((sortK kv).map pairE).map .dat)])) : wpC K (gSortedA K) [x] env cs Φ := fun F B H A σ vs s r Q q => by
  cases r with
  | cons r1 r2 =>
    cases r2
    obtain ⟨a, rfl, g⟩ := s.seqL r1 hx
    obtain ⟨ws, h1, h2⟩ := g F B H A env cs σ (fun _ _ h => h) (fun _ _ h => h) s hx
    obtain ⟨bs, e1, e2, hB⟩ := rpl_zipP h2
    have hm : ∀ b, b ∈ bs → b.2 ∈ kv := fun b hb => by
      rw [← e2]
      exact List.mem_map.mpr ⟨b, hb, rfl⟩
    refine .inr ⟨a, bs, rfl, by rw [e1]; exact h1, fun b hb => ⟨Rp.mono s.eb (hB b hb), (hp _ (hm b hb)).1, (hp _ (hm b hb)).2⟩, fun b c hb hc e => hk _ _ (hm b hb) (hm c hc) e, fun p hp2 => q.lst s hp2 (RpVs.of_dats (ds := (sortK kv).map pairE) ?_) f⟩
    have e3 : (sortK kv).map pairE = (bs.mergeSort (PySem.W.dataLe false fun b => .str b.2.1)).map fun b => pairE b.2 := by
      have h4 := List.map_mergeSort (f := fun z : BP => z.2) (r := PySem.W.dataLe false (fun z : BP => .str z.2.1)) (s := PySem.W.dataLe false fun p : Str × D => .str p.1) (l := bs) (fun _ _ _ _ => rfl)
      unfold sortK
      rw [← e2, ← h4, List.map_map]
      rfl
    rw [e3]
    exact rpl_pairsP fun b hb => hB b (List.mem_mergeSort.mp hb)
theorem wc_sortedD0 {ds : List D} (hx : DatOf cs x (.list ds)) (hp : ∀ d, d ∈ ds → PD 60 d) (hal : PySem.W.AllAlike ds) (hk : PySem.W.Sortable ds) (f : Φ (.cel cs.length) (cs ++ [.lst ((sortD ds).map .dat)])) : wpC K (gSortedA K) [x] env cs Φ := fun F B H A σ vs s r Q q => .inl (wc_sorted hx hp hal hk f F B H A σ vs s r Q q)
theorem lr_sortable (ls : List Lr) : PySem.W.Sortable (ls.map lrD) := .inl fun d hd => by
  obtain ⟨l, _, rfl⟩ := List.mem_map.mp hd
  exact ⟨_, _, rfl⟩
/-- sorted(letters) -/
theorem wc_sortLr {ls : List Lr} (hx : DatOf cs x (.list (ls.map lrD))) (f : Φ (.cel cs.length) (cs ++ [.lst (((sortR ls).map lrD).map .dat)])) : wpC K (gSortedA K) [x] env cs Φ :=
  wc_sortedD0 hx (pd_map fun l _ => pd_lr l) (lr_alike ls) (lr_sortable ls) (by rw [sortD_lr]; exact f)
/-- sorted(marks) -/
theorem wc_sortMk {ms : List Mk} (hx : DatOf cs x (.list (ms.map mkD))) (hk : (ms.map (·.1)).Nodup) (f : Φ (.cel cs.length) (cs ++ [.lst (((sortK ms).map mkD).map .dat)])) : wpC K (gSortedA K) [x] env cs Φ := by
  refine wc_sortedP (kv := msS ms) (by rw [ms_pairs]; exact hx) (fun p hp => ?_) (fun p q hp hq e => ?_) ?_
  · obtain ⟨m, _, rfl⟩ := List.mem_map.mp hp
    exact opt_pd _
  · have nd : ((msS ms).map (·.1)).Nodup := by
      rw [show (msS ms).map (·.1) = ms.map (·.1) from mpA_keys optD ms]
      exact hk
    rw [nodup_inj nd hp hq e]
  · have e1 : (sortK (msS ms)).map pairE = (sortK ms).map mkD := by
      show (sortK (ms.map fun p => (p.1, optD p.2))).map pairE = _
      rw [← sortK_map optD ms, List.map_map]
      rfl
    rw [e1]
    exact f
end
section
variable {K : PySem.W.Frag} {env : G.Env} {cs : List Cell} {Φ : Vl → List Cell → Prop} {ds : List D}
theorem wc_weak1 {r : List V → Hp → VK → Prop} (h : wpC K r [.dat (.tuple ds)] env cs Φ) : wpC K r [.dat (xtD ds)] env cs Φ := fun F B H A σ vs s r1 Q q => h F B H A σ vs s (by
  cases r1 with
  | cons r1 r2 => exact .cons (rpv_weak r1) r2) Q q
theorem wc_weakL (h : wpC K (gList K) [.dat (.tuple ds)] env cs Φ) : wpC K (gList K) [.dat (xtD ds)] env cs Φ := wc_weak1 h
theorem wc_weakN (h : wpC K (gLen K) [.dat (.tuple ds)] env cs Φ) : wpC K (gLen K) [.dat (xtD ds)] env cs Φ := wc_weak1 h
end
end G
/-! a, b = a list of that length -/
open PySem PySem.Spec PyProof.Rows L2 TL
namespace G
end G
/-! Rings of a map of names, in plain Lean. -/
open PySem PySem.Spec PyProof.Rows L2 TL
namespace G
def Link (f : Str → Option Str) (p : List Str) (o : Option Str) : Prop := ∀ (i : Nat) (x : Str), p[i]? = some x → f x = (p ++ o.toList)[i + 1]?
def Back (f : Str → Option Str) (x : Str) : Prop := ∃ k, iterO f (k + 1) (some x) = some x
def IsRing (f : Str → Option Str) (r : List Str) : Prop := r ≠ [] ∧ r.Nodup ∧ Link f r r.head?
/-! ### the ring from a name on -/
/-! ### who is cut -/
def ctLt (dy : Str → Option Int) (a b : Str) : Bool := match dy a, dy b with
  | none, none => PySem.W.dataLt (.str a) (.str b)
  | none, some _ => true
  | some _, none => false
  | some x, some y => PySem.W.dataLt (.tuple [.int x, .str a]) (.tuple [.int y, .str b])
def Cut (dy : Str → Option Int) (hd : Str → Bool) (r : List Str) (c : Str) : Prop := c ∈ r ∧ hd c = false ∧ ∀ d, d ∈ r → hd d = false → d = c ∨ ctLt dy c d = true
theorem rise_eq : ∀ {ds es : List D}, (ds.Pairwise fun a b => PySem.W.dataLt a b = true) → (es.Pairwise fun a b => PySem.W.dataLt a b = true) → (∀ d, d ∈ ds ↔ d ∈ es) → ds = es
  | [], [], _, _, _ => rfl
  | [], e :: es, _, _, m => absurd ((m e).mpr (List.mem_cons_self ..)) (by simp)
  | d :: ds, [], _, _, m => absurd ((m d).mp (List.mem_cons_self ..)) (by simp)
  | d :: ds, e :: es, h, g, m => by
    have h2 := List.pairwise_cons.mp h
    have g2 := List.pairwise_cons.mp g
    have ed : d = e := by
      rcases List.mem_cons.mp ((m d).mp (List.mem_cons_self ..)) with e1 | h3
      · exact e1
      · rcases List.mem_cons.mp ((m e).mpr (List.mem_cons_self ..)) with e1 | h4
        · exact e1.symm
        · have := dlt_asymm (g2.1 d h3)
          rw [h2.1 e h4] at this
          cases this
    subst ed
    rw [rise_eq h2.2 g2.2 fun x => ?_]
    constructor
    · intro hx
      rcases List.mem_cons.mp ((m x).mp (List.mem_cons_of_mem _ hx)) with e1 | h3
      · subst e1
        have := h2.1 x hx
        rw [dlt_irr] at this
        cases this
      · exact h3
    · intro hx
      rcases List.mem_cons.mp ((m x).mpr (List.mem_cons_of_mem _ hx)) with e1 | h3
      · subst e1
        have := g2.1 x hx
        rw [dlt_irr] at this
        cases this
      · exact h3
end G
/-! How the rings are found, in plain Lean. -/
open PySem PySem.Spec PyProof.Rows L2 TL
namespace G
section
variable {f : Str → Option Str} {kn0 kn : List (Str × Str)} {rs : List (List Str)} {name : Str} {p : List Str} {here : Option Str} {K : List Str}
structure KOk (f : Str → Option Str) (kn : List (Str × Str)) (rs : List (List Str)) : Prop where
  closed : ∀ x y, lkA kn x ≠ none → f x = some y → lkA kn y ≠ none
  ring : ∀ r, r ∈ rs → IsRing f r ∧ ∀ x, x ∈ r → lkA kn x ≠ none
  all : ∀ x, lkA kn x ≠ none → Back f x → ∃ r, r ∈ rs ∧ x ∈ r
  dis : rs.Pairwise fun r s => ∀ x, x ∈ r → x ∉ s
theorem KOk.nil : KOk f [] [] := ⟨fun x y h => absurd rfl h, (fun _ h => nomatch h), fun x h => absurd rfl h, List.Pairwise.nil⟩
structure POk (f : Str → Option Str) (kn0 : List (Str × Str)) (name : Str) (kn : List (Str × Str)) (p : List Str) (here : Option Str) : Prop where
  eq : ∀ x, lkA kn x = if x ∈ p then some name else lkA kn0 x
  nodup : p.Nodup
  new : ∀ x, x ∈ p → lkA kn0 x = none
  link : Link f p here
  first : (p = [] ∧ here = some name) ∨ name ∈ p
theorem POk.step {y : Str} (po : POk f kn0 name kn p (some y)) (hy : lkA kn y = none) : POk f kn0 name (ptA kn y name) (p ++ [y]) (f y) := by
  have h0 := po.eq y
  rw [hy] at h0
  have hyp : y ∉ p := fun h => by rw [if_pos h] at h0; cases h0
  rw [if_neg hyp] at h0
  refine ⟨fun x => ?_, ?_, fun x hx => ?_, fun i x hx => ?_, ?_⟩
  · rw [lkA_pt, po.eq]
    by_cases e : x = y
    · subst e
      simp
    · rw [if_neg e]
      have : (x ∈ p ++ [y]) ↔ x ∈ p := by simp [e]
      by_cases h : x ∈ p
      · rw [if_pos h, if_pos (this.mpr h)]
      · rw [if_neg h, if_neg (fun z => h (this.mp z))]
  · rw [List.nodup_append]
    refine ⟨po.nodup, by simp, fun a ha b hb => ?_⟩
    rw [List.mem_singleton.mp hb]
    intro e
    exact hyp (by rw [← e]; exact ha)
  · rcases List.mem_append.mp hx with h | h
    · exact po.new x h
    · rw [List.mem_singleton.mp h]
      exact h0.symm
  · by_cases hi : i < p.length
    · rw [List.getElem?_append_left hi] at hx
      rw [po.link i x hx]
      exact (List.getElem?_append_left (l₁ := p ++ [y]) (by simp; omega)).symm
    · have hl := (List.getElem?_eq_some_iff.mp hx).1
      have e : i = p.length := by simp at hl; omega
      subst e
      have e2 : y = x := by simpa using hx
      subst e2
      rw [List.getElem?_append_right (by simp), show p.length + 1 - (p ++ [y]).length = 0 by simp]
      cases f y <;> rfl
  · rcases po.first with ⟨_, h⟩ | h
    · exact .inr (by rw [← Option.some.inj h]; simp)
    · exact .inr (List.mem_append_left _ h)
theorem POk.up (po : POk f kn0 name kn p here) {x : Str} (h : lkA kn0 x ≠ none) : lkA kn x ≠ none := by
  rw [po.eq]
  by_cases e : x ∈ p
  · rw [if_pos e]
    exact fun z => nomatch z
  · rw [if_neg e]
    exact h
end
end G
/-! Rings of chosen elders, the trees by names. -/
open PySem PySem.Spec PyProof.Rows L2 TL
namespace G
theorem nlt_trans {a b c : D} (h : PySem.W.dataLt b a = false) (g : PySem.W.dataLt c b = false) : PySem.W.dataLt c a = false := by
  have := le_trans3 a b c (by show (!PySem.W.dataLt b a) = true; rw [h]; rfl) (by show (!PySem.W.dataLt c b) = true; rw [g]; rfl)
  have h2 : (!PySem.W.dataLt c a) = true := this
  rwa [Bool.not_eq_true'] at h2
theorem minD_le (d : D) : ∀ (ds : List D) (y : D), y ∈ d :: ds → PySem.W.dataLt y (PySem.W.minD d ds) = false := fun ds => by
  unfold PySem.W.minD
  induction ds generalizing d with
  | nil =>
    intro y hy
    rw [List.mem_singleton.mp hy]
    exact dlt_irr _
  | cons e ds ih =>
    intro y hy
    rw [List.foldl_cons]
    have h0 := ih (if PySem.W.dataLt e d = true then e else d) _ (List.mem_cons_self ..)
    have hd : PySem.W.dataLt d (if PySem.W.dataLt e d = true then e else d) = false := by
      split
      · rename_i h
        exact dlt_asymm h
      · exact dlt_irr _
    have he : PySem.W.dataLt e (if PySem.W.dataLt e d = true then e else d) = false := by
      split
      · exact dlt_irr _
      · rename_i h
        simpa using h
    rcases List.mem_cons.mp hy with rfl | hy
    · exact nlt_trans h0 hd
    · rcases List.mem_cons.mp hy with rfl | hy
      · exact nlt_trans h0 he
      · exact ih _ y (List.mem_cons_of_mem _ hy)
abbrev Dy : Type := Str × Int
def heldB (ms : List Mk) (n : Str) : Bool := (lkA ms n).isSome
def daysL (ls : List Lr) : List Dy := (standL ls).map fun l => (l.1, l.2.1)
/-- the day of who bears a letter -/
def dayO (ls : List Lr) (n : Str) : Option Int := lkA (daysL ls) n
def upC (ls : List Lr) (ms : List Mk) (n : Str) : Option Str := (chs ls ms n).1
theorem str_lt_or {a b : Str} (h : PySem.W.dataLt (.str a) (.str b) = false) : a = b ∨ PySem.W.dataLt (.str b) (.str a) = true := by
  by_cases e : b = a
  · exact .inl e.symm
  · exact .inr (lt_of_not (by simp [PySem.W.alike]) h (by rw [eqv_str]; exact decide_eq_false e))
theorem pair_eqv (x y : Int) (a b : Str) : PyData.eqv (.tuple [.int x, .str a]) (.tuple [.int y, .str b]) = decide (x = y ∧ a = b) := by
  rw [PyData.eqv, PyData.eqvAll, PyData.eqvAll, PyData.eqvAll, eqv_intD, eqv_str]
  by_cases h1 : x = y <;> by_cases h2 : a = b <;> simp [h1, h2]
theorem pair_lt_or {x y : Int} {a b : Str} (h : PySem.W.dataLt (.tuple [.int x, .str a]) (.tuple [.int y, .str b]) = false) : a = b ∨ PySem.W.dataLt (.tuple [.int y, .str b]) (.tuple [.int x, .str a]) = true := by
  by_cases e : b = a
  · exact .inl e.symm
  · exact .inr (lt_of_not (by simp [PySem.W.alike, PySem.W.alikeAll]) h (by rw [pair_eqv]; exact decide_eq_false fun z => e z.2))
/-- the least empty one is the cut -/
theorem cut_empty {dl : List Dy} {hd : Str → Bool} {r : List Str} {c : Str} (hm : c ∈ (r.filter fun n => !hd n).filter fun n => !(lkA dl n).isSome) (hle : ∀ d, d ∈ (r.filter fun n => !hd n).filter (fun n => !(lkA dl n).isSome) → PySem.W.dataLt (.str d) (.str c) = false) : Cut (fun n => lkA dl n) hd r c := by
  obtain ⟨h1, h2⟩ := List.mem_filter.mp hm
  obtain ⟨h3, h4⟩ := List.mem_filter.mp h1
  have hc : lkA dl c = none := by simpa using h2
  refine ⟨h3, by simpa using h4, fun d hdm hdf => ?_⟩
  cases q : lkA dl d with
  | some x =>
    refine .inr ?_
    unfold ctLt
    simp only [hc, q]
  | none =>
    rcases str_lt_or (hle d (List.mem_filter.mpr ⟨List.mem_filter.mpr ⟨hdm, by rw [hdf]; rfl⟩, by rw [q]; rfl⟩)) with e | e
    · exact .inl e
    · refine .inr ?_
      unfold ctLt
      simp only [hc, q]
      exact e
theorem cut_lettered {dl : List Dy} {hd : Str → Bool} {r : List Str} {c : Str} {x : Int} (hno : ((r.filter fun n => !hd n).filter fun n => !(lkA dl n).isSome) = []) (hm : c ∈ r.filter fun n => !hd n) (hx : lkA dl c = some x) (hle : ∀ d y, d ∈ r.filter (fun n => !hd n) → lkA dl d = some y → PySem.W.dataLt (.tuple [.int y, .str d]) (.tuple [.int x, .str c]) = false) : Cut (fun n => lkA dl n) hd r c := by
  obtain ⟨h3, h4⟩ := List.mem_filter.mp hm
  refine ⟨h3, by simpa using h4, fun d hdm hdf => ?_⟩
  have hdm2 : d ∈ r.filter fun n => !hd n := List.mem_filter.mpr ⟨hdm, by rw [hdf]; rfl⟩
  cases q : lkA dl d with
  | none =>
    have : d ∈ (r.filter fun n => !hd n).filter fun n => !(lkA dl n).isSome := List.mem_filter.mpr ⟨hdm2, by rw [q]; rfl⟩
    rw [hno] at this
    cases this
  | some y =>
    rcases pair_lt_or (hle d y hdm2 q) with e | e
    · exact .inl e
    · refine .inr ?_
      unfold ctLt
      simp only [hx, q]
      exact e
end G
/-! The trees by names, in plain Lean. -/
open PySem PySem.Spec PyProof.Rows L2 TL
namespace G
theorem str_alikeAll (xs : List Str) : PySem.W.AlikeAll (xs.map .str) := ⟨fun x hx y hy => by
  obtain ⟨a, _, rfl⟩ := List.mem_map.mp hx
  obtain ⟨b, _, rfl⟩ := List.mem_map.mp hy
  simp [PySem.W.alike], fun x hx => by
  obtain ⟨a, _, rfl⟩ := List.mem_map.mp hx
  simp⟩
def dnD (q : Int × Str) : D := .tuple [.int q.1, .str q.2]
end G
/-! min(a, b) of data; promises with a free answer. -/
open PySem PySem.Spec PyProof.Rows L2 TL
namespace G
/-! ### promises whose answer is free -/
abbrev SpecAS (spec : List D → (D → Prop) → Prop) : AS := fun args cs Φ => ∃ ds Q, args = ds.map .dat ∧ cs = [] ∧ spec ds Q ∧ ∀ d, Q d → Φ (.dat d) []
def Spec1 (spec : List D → (D → Prop) → Prop) (xs : List Vl) (c1 : List Cell) (Φ : Vl → List Cell → Prop) : Prop := ∃ ds Q, xs = ds.map .dat ∧ spec ds Q ∧ ∀ d, Q d → Φ (.dat d) c1
section
variable {K : PySem.W.Frag} {env : G.Env} {cs : List Cell} {Φ : Vl → List Cell → Prop} {ta : TA} {spec : List D → (D → Prop) → Prop}
theorem cl_spec {E : XK} (h : wpA K ta env cs fun xs c1 => Spec1 spec xs c1 Φ) : wpE K (tCall (conc K (SpecAS spec)) [] E ta) env cs Φ :=
  we_call0 fun F B H A σ s Q q => h F B H A σ s Q fun xs cs' vs B' H' A' ⟨ds, R, e, hp, hq⟩ => q xs cs' vs B' H' A' ⟨fun x c => ∃ d, x = .dat d ∧ c = [] ∧ R d, ⟨ds, R, e, rfl, hp, fun d hd => ⟨d, rfl, rfl, hd⟩⟩, by rw [e]; exact vlB_dats ds, fun x c ⟨d, e1, e2, hd⟩ => ⟨d, e1, e2, hq d hd⟩⟩
end
end G
/-! The cells in another order, some let go. -/
open PySem PySem.Spec PyProof.Rows L2 TL
namespace G
end G
/-! The ways up by names end, in plain Lean. -/
open PySem PySem.Spec PyProof.Rows L2 TL
namespace G
section
variable {ls : List Lr} {ms : List Mk}
theorem least_in {c : Cl} : ∀ (cs : List Cl) (o : Option Cl), cs.foldl minO o = some c → c ∈ cs ∨ o = some c
  | [], o, h => .inr h
  | d :: cs, o, h => by
    rcases least_in cs _ h with h | h
    · exact .inl (List.mem_cons_of_mem _ h)
    · unfold minO at h
      split at h
      · cases h
        exact .inl (List.mem_cons_self ..)
      · exact .inr h
end
end G
/-! sorted of a tuple of data; the rings, in plain Lean. -/
open PySem PySem.Spec PyProof.Rows L2 TL
namespace G
end G
/-! Ways up; list(d); name += number. -/
open PySem PySem.Spec PyProof.Rows L2 TL
namespace G
/-! ### the way up -/
def goL (f : Str → Option Str) : Nat → Option Str → List Str
  | 0, _ => []
  | _ + 1, none => []
  | k + 1, some x => x :: goL f k (f x)
theorem goL_none (f : Str → Option Str) (k : Nat) : goL f k none = [] := by cases k <;> rfl
/-- the names from one up, each once -/
def UpOk (f : Str → Option Str) (x : Str) (L : List Str) : Prop := L.Nodup ∧ (∀ i y, L[i]? = some y → iterO f i (some x) = some y) ∧ x ∈ L ∧ ∀ y z, y ∈ L → f y = some z → z ∈ L
theorem UpOk.all {f : Str → Option Str} {x : Str} {L : List Str} (h : UpOk f x L) : ∀ k y, iterO f k (some x) = some y → y ∈ L
  | 0, y, e => by
    rw [← Option.some.inj (show some x = some y from e)]
    exact h.2.2.1
  | k + 1, y, e => by
    rw [iterO_succ] at e
    cases q : iterO f k (some x) with
    | none =>
      rw [q] at e
      cases e
    | some z =>
      rw [q] at e
      exact h.2.2.2 z y (h.all k z q) e
end G
/-! dict(row of pairs) that is still changed; a fresh name. -/
open PySem PySem.Spec PyProof.Rows L2 TL
namespace G
section
variable {K : PySem.W.Frag} {env : G.Env} {cs : List Cell} {m : Nat} {t : TS} {a : AE}
/-- the list in slot i is from now on data, the cells from n on are let go -/
theorem wsm_frzL (n : Nat) {i k : Nat} {es : List D} (hi : env[i]? = some (some (.cel k))) (hk : cs[k]? = some (.lst (es.map .dat))) (hm : m ≤ n) (hn : n ≤ k) (he : EnvB n (env.set i none)) (hc : CsB n (cs.take n)) (h : wpSm K m t (env.set i (some (.dat (.list es)))) (cs.take n) a) : wpSm K m t env cs a := fun F B H A σ s D q1 q2 q3 q4 => by
  obtain ⟨o, ho, r⟩ := Paired.get' s.sl hi
  cases o with
  | none => exact r.elim
  | some v =>
    obtain ⟨b, hb, rfl⟩ : ∃ b, A[k]? = some b ∧ v = .ref b := r
    have hw : Wk env (env.set i none) := wk_set i (wk_refl env)
    obtain ⟨ws, h1, hrw, s7, e7⟩ := s.fz hb hk hn hc (RpOs.cut (hw.rp s.sl) he)
    have sl : RpOs K (upd B b (.lst ws)) (A.take n) (env.set i (some (.dat (.list es)))) σ := by
      have z := Paired.set' (x := some (Vl.dat (.list es))) (y := some (V.ref b)) (show RpO K (upd B b (.lst ws)) (A.take n) (some (.dat (.list es))) (some (.ref b)) from ⟨b, ws, rfl, SqL.of upd_same, hrw.mono e7⟩) i s7.sl
      rw [List.set_set] at z
      have hσ : σ.set i (some (V.ref b)) = σ := by
        obtain ⟨hl, e⟩ := List.getElem?_eq_some_iff.mp ho
        rw [← e]
        exact List.set_getElem_self hl
      rw [hσ] at z
      exact z
    have e : (A.take n).take m = A.take m := by rw [List.take_take, Nat.min_eq_left hm]
    refine h F _ _ (A.take n) σ (s7.withEnv sl) D ?_ ?_ ?_ ?_ <;> rw [e]
    · exact q1.on e7 (Pre.refl _)
    · exact q2.on e7 (Pre.refl _)
    · exact q3.on e7 (Pre.refl _)
    · exact q4.on e7 (Pre.refl _)
end
/-! ### numbers told as text -/
end G
/-! Ties told by rings found anyhow, in plain Lean. -/
open PySem PySem.Spec PyProof.Rows L2 TL
namespace G
end G
/-! zip of three lists: as it is walked by the hand layer, and by data. -/
open PySem PySem.Spec PyProof.Rows L2 TL
namespace G
end G
/-! xs.extend(ys) of two lists. -/
open PySem PySem.Spec PyProof.Rows L2 TL
namespace G
end G
/-! partition, strip of signs, upper; what rules take off a head. -/
open PySem PySem.Spec PyProof.Rows L2 TL
namespace G
def gPart : V → List V → Hp → VK → Prop := fun x xs H Q => ∃ a b, x = .str a ∧ xs = [.str b] ∧ (b.length == 0) = false ∧ a.length ≤ sizeLine ∧ ∀ p, H p = none → Q (.ref p) (upd H p (.tup [.str (Txt.partition a b).1, .str (Txt.partition a b).2.1, .str (Txt.partition a b).2.2]))
def gStripC : V → List V → Hp → VK → Prop := fun x xs H Q => ∃ a b, x = .str a ∧ xs = [.str b] ∧ a.length ≤ sizeLine ∧ Q (.str (Txt.stripChars a b)) H
def gUpper : V → List V → Hp → VK → Prop := fun x xs H Q => ∃ a, x = .str a ∧ xs = [] ∧ a.length ≤ 5592405 ∧ Q (.str (Txt.upper a)) H
section
variable {K : PySem.W.Frag} {env : G.Env} {cs : List Cell} {Φ : Vl → List Cell → Prop} {x y : Vl}
theorem wm_part {a b : Str} (hx : x = .dat (.str a)) (hy : y = .dat (.str b)) (hb : (b.length == 0) = false) (hl : a.length ≤ 1000000) (f : Φ (.dat (.tuple [.str (Txt.partition a b).1, .str (Txt.partition a b).2.1, .str (Txt.partition a b).2.2])) cs) : wpM K gPart x [y] env cs Φ := fun F B H A σ v vs s r1 rs Q q => by
  subst hx hy
  cases rs with
  | cons r2 r3 =>
    cases r3
    exact ⟨a, b, r1, by rw [show _ = V.str b from r2], hb, Nat.le_trans hl (by decide), fun p hp => q.tup s hp (show RpL K B [.str (Txt.partition a b).1, .str (Txt.partition a b).2.1, .str (Txt.partition a b).2.2] _ from ⟨_, _, rfl, rfl, _, _, rfl, rfl, _, _, rfl, rfl, rfl⟩) f⟩
theorem wm_stripC {a b : Str} (hx : x = .dat (.str a)) (hy : y = .dat (.str b)) (hl : a.length ≤ 1000000) (f : Φ (.dat (.str (Txt.stripChars a b))) cs) : wpM K gStripC x [y] env cs Φ := fun F B H A σ v vs s r1 rs Q q => by
  subst hx hy
  cases rs with
  | cons r2 r3 =>
    cases r3
    exact ⟨a, b, r1, by rw [show _ = V.str b from r2], Nat.le_trans hl (by decide), q.now s (x := .dat (.str (Txt.stripChars a b))) rfl f⟩
theorem wm_upper {a : Str} (hx : x = .dat (.str a)) (hl : a.length ≤ 1000000) (f : Φ (.dat (.str (Txt.upper a))) cs) : wpM K gUpper x [] env cs Φ := fun F B H A σ v vs s r1 rs Q q => by
  subst hx
  cases rs
  exact ⟨a, r1, rfl, Nat.le_trans hl (by decide), q.now s (x := .dat (.str (Txt.upper a))) rfl f⟩
end
/-! ### lengths -/
def stripB (z : Str) : Str := Txt.stripChars z (Str.ofString " ")
theorem stripB_len (z : Str) : (stripB z).length ≤ z.length := by
  show (Txt.stripBy _ true true z).length ≤ _
  unfold Txt.stripBy
  split
  · exact Nat.le_refl _
  · rw [len_tl, show tl (stripped _ _ _ _) = _ from tl_strSub _ _ _, List.length_take, List.length_drop, len_tl z]
    omega
theorem starts_len {a b : Str} (h : Txt.startswith a b = true) : b.length ≤ a.length := by
  unfold Txt.startswith at h
  rw [Bool.and_eq_true, decide_eq_true_eq] at h
  omega
theorem ends_len {a b : Str} (h : Txt.endswith a b = true) : b.length ≤ a.length := by
  unfold Txt.endswith at h
  rw [Bool.and_eq_true, decide_eq_true_eq] at h
  omega
theorem part_len (a b : Str) (hb : tl b ≠ []) : (Txt.partition a b).1.length ≤ a.length ∧ (Txt.partition a b).2.2.length ≤ a.length := by
  rw [partition_par a b hb]
  have key : ∀ (S l acc p q : List Nat), par S acc l = some (p, q) → p.length ≤ acc.length + l.length ∧ q.length ≤ l.length := by
    intro S l
    induction l with
    | nil => intro acc p q h; cases h
    | cons c r ih =>
      intro acc p q h
      rw [par] at h
      split at h
      · cases h
        exact ⟨by omega, by rw [List.length_drop]; omega⟩
      · have := ih _ _ _ h
        rw [List.length_append] at this
        rw [List.length_cons]
        exact ⟨by have := this.1; show _ ≤ acc.length + (r.length + 1); simp at this; omega, by omega⟩
  cases h : par (tl b) [] (tl a) with
  | none => exact ⟨Nat.le_refl _, Nat.zero_le _⟩
  | some pq =>
    obtain ⟨p, q⟩ := pq
    have := key _ _ _ _ _ h
    rw [len_tl a]
    exact ⟨by have := this.1; simpa [Str.length] using this, by have := this.2; simpa [Str.length] using this⟩
/-! ### what rules take off a text -/
def behindS (t p : Str) : Option Str := if Txt.startswith t p = true then some (cutS t (some (p.length : Nat)) none) else none
def aheadS (t p : Str) : Option Str := if Txt.endswith t p = true then some (cutS t none (some ((t.length : Nat) - (p.length : Nat) : Int))) else none
abbrev figS : Str := Str.ofString "0123456789"
def isCountL (l : List Nat) : Bool := decide (1 < l.length) && decide (l[0]? = some 91) && (l.drop 1).all fun c => decide (c ∈ figS.cps.toList)
def colS : Str := Str.ofString ":"
def endS : Str := Str.ofString "]:"
def answerS (t w : Str) : Option Str :=
  if Txt.startswith t w = true then
    if Txt.startswith (cutS t (some (w.length : Nat)) none) colS = true then some (cutS (cutS t (some (w.length : Nat)) none) (some 1) none)
    else if (Txt.partition (cutS t (some (w.length : Nat)) none) endS).2.1 ≠ Str.ofString "" ∧ isCountL (tl (Txt.partition (cutS t (some (w.length : Nat)) none) endS).1) = true then some (Txt.partition (cutS t (some (w.length : Nat)) none) endS).2.2
    else none
  else none
def aheadK : Str := Str.ofString "ahead"
def labelK : Str := Str.ofString "label"
def leftS (t : Str) (r : Str × Str) : Option Str :=
  (if r.1 = aheadK then answerS t r.2 else if r.1 = labelK then behindS t (Str.ofString "[" ++ r.2 ++ Str.ofString "]") else aheadS t (Str.ofString "(" ++ r.2 ++ Str.ofString ")")).map stripB
def stepS (t : Str) : Nat → List (Str × Str) → Option (Nat × Str)
  | _, [] => none
  | k, r :: rs => match leftS t r with
    | some z => some (k, z)
    | none => stepS t (k + 1) rs
theorem cut_suf_len {z : Str} {n : Nat} : (cutS z (some (n : Nat)) none).length = z.length - n := by
  rw [len_tl, tl_cut, cutD_suf _ (by omega), List.length_drop, len_tl z]
  rfl
theorem answer_len {t w z : Str} (h : answerS t w = some z) : z.length < t.length := by
  unfold answerS at h
  split at h
  · rename_i h1
    have l1 := starts_len h1
    have l2 := cut_suf_len (z := t) (n := w.length)
    split at h
    · rename_i h2
      have l3 := starts_len h2
      have lc : colS.length = 1 := by decide +kernel
      have l4 := cut_suf_len (z := cutS t (some (w.length : Nat)) none) (n := 1)
      have e := Option.some.inj h
      rw [← e]
      rw [show ((1 : Nat) : Int) = 1 from rfl] at l4
      omega
    · split at h
      · rename_i h3
        have e := Option.some.inj h
        have hb : tl endS ≠ [] := by decide +kernel
        rw [← e]
        generalize hr : cutS t (some (w.length : Nat)) none = r at *
        have hp := part_len r endS hb
        have h4 := h3.2
        unfold isCountL at h4
        rw [Bool.and_eq_true, Bool.and_eq_true, decide_eq_true_eq, ← len_tl] at h4
        rw [partition_par r endS hb] at h4 ⊢
        cases hq : par (tl endS) [] (tl r) with
        | none =>
          rw [hq] at h4
          show Str.empty.length < _
          have : r.length > 1 := h4.1.1
          show 0 < t.length
          omega
        | some pq =>
          obtain ⟨p, q⟩ := pq
          rw [hq] at h4
          have key : ∀ (S l acc p q : List Nat), par S acc l = some (p, q) → p.length + q.length ≤ acc.length + l.length := by
            intro S l
            induction l with
            | nil => intro acc p q h; cases h
            | cons c r ih =>
              intro acc p q h
              rw [par] at h
              split at h
              · cases h
                rw [List.length_drop]
                omega
              · have := ih _ _ _ h
                rw [List.length_append] at this
                rw [List.length_cons]
                simp at this
                omega
          have k1 := key _ _ _ _ _ hq
          rw [← len_tl r] at k1
          have k2 : 1 < p.length := by simpa [Str.length] using h4.1.1
          show (⟨q.toArray⟩ : Str).length < _
          have k3 : (⟨q.toArray⟩ : Str).length = q.length := by simp [Str.length]
          rw [k3]
          simp at k1
          omega
      · cases h
  · cases h
theorem left_len {t z : Str} {r : Str × Str} (h : leftS t r = some z) : z.length < t.length := by
  unfold leftS at h
  have hbr : ∀ w : Str, (Str.ofString "[" ++ w ++ Str.ofString "]").length = w.length + 2 := fun w => by
    rw [len_tl, tl_append, tl_append, List.length_append, List.length_append, len_tl w]
    have h1 : (tl (Str.ofString "[")).length = 1 := by decide +kernel
    have h2 : (tl (Str.ofString "]")).length = 1 := by decide +kernel
    omega
  have hpr : ∀ w : Str, (Str.ofString "(" ++ w ++ Str.ofString ")").length = w.length + 2 := fun w => by
    rw [len_tl, tl_append, tl_append, List.length_append, List.length_append, len_tl w]
    have h1 : (tl (Str.ofString "(")).length = 1 := by decide +kernel
    have h2 : (tl (Str.ofString ")")).length = 1 := by decide +kernel
    omega
  obtain ⟨y, hy, rfl⟩ := Option.map_eq_some_iff.mp h
  refine Nat.lt_of_le_of_lt (stripB_len y) ?_
  split at hy
  · exact answer_len hy
  · split at hy
    · unfold behindS at hy
      split at hy
      · rename_i h1
        have l1 := starts_len h1
        rw [hbr] at l1
        rw [← Option.some.inj hy, cut_suf_len, hbr]
        omega
      · cases hy
    · unfold aheadS at hy
      split at hy
      · rename_i h1
        have l1 := ends_len h1
        rw [hpr] at l1
        rw [← Option.some.inj hy, len_tl, tl_cut, cutD_pre _ (by rw [hpr]; omega), List.length_take, hpr]
        omega
      · cases hy
end G
/-! What rules take off, by places in the text. -/
open PySem PySem.Spec PyProof.Rows L2 TL
namespace G
end G
/-! What is left does not hang on the rules' order. -/
open PySem PySem.Spec PyProof.Rows L2 TL
namespace G
end G
/-! Pieces that rules take off, and their order. -/
open PySem PySem.Spec PyProof.Rows L2 TL
namespace G
end G
/-! What is left, and the kinds of the steps, do not hang on the rules' order. -/
open PySem PySem.Spec PyProof.Rows L2 TL
namespace G
/-! ### the ends -/
end G
/-! Plain heads with pieces laid round them. -/
open PySem PySem.Spec PyProof.Rows L2 TL
namespace G
end G
/-! Cores, and what is laid round them. -/
open PySem PySem.Spec PyProof.Rows L2 TL
namespace G
end G
/-! s.ljust(n, one sign) -/
open PySem PySem.Spec PyProof.Rows L2 TL
namespace G
def gLjust : V → List V → Hp → VK → Prop := fun x xs H Q => ∃ (a f : Str) (i : Int), x = .str a ∧ xs = [.int i, .str f] ∧ PadOk i = true ∧ f.length = 1 ∧ Q (.str (Txt.ljustF a i (f.cps.getD 0 0))) H
def rLjust : L2.St → V → List V → Hp → VK → Prop := fun _ x xs H Q => gLjust x xs H Q
section
variable {K : PySem.W.Frag} {env : G.Env} {cs : List Cell} {Φ : Vl → List Cell → Prop} {x y z : Vl} {ta : TE} {tb : TA}
theorem we_bmS {r : V → List V → Hp → VK → Prop} (h : wpE K ta env cs fun x c1 => (∃ z, x = .dat (.str z)) ∧ wpA K tb env c1 fun xs c2 => wpM K r x xs env c2 Φ) : wpE K (tBMS K "str" (fun _ x xs H Q => r x xs H Q) ta tb) env cs Φ := fun F B H A σ s Q q =>
  h F B H A σ s _ fun x c1 v B1 H1 A1 f e1 p1 s1 r1 => by
    obtain ⟨⟨z, rfl⟩, f⟩ := f
    have ev : v = V.str z := r1
    subst ev
    exact ⟨rfl, f F B1 H1 A1 σ s1 _ fun ys c2 ws B2 H2 A2 g e2 p2 s2 r2 => g F B2 H2 A2 σ (.str z) ws s2 (r1.mono e2 p2) r2 Q (q.on (e1.trans e2) (p1.trans p2))⟩
theorem we_ljust (h : wpE K ta env cs fun x c1 => (∃ z, x = .dat (.str z)) ∧ wpA K tb env c1 fun xs c2 => wpM K gLjust x xs env c2 Φ) : wpE K (tBMS K "str" rLjust ta tb) env cs Φ := we_bmS h
theorem wm_ljust {a f : Str} {i : Int} (hx : x = .dat (.str a)) (hy : y = .dat (.int i)) (hz : z = .dat (.str f)) (hp : PadOk i = true) (hf : f.length = 1) (g : Φ (.dat (.str (Txt.ljustF a i (f.cps.getD 0 0)))) cs) : wpM K gLjust x [y, z] env cs Φ := fun F B H A σ v vs s r1 rs Q q => by
  subst hx hy hz
  cases rs with
  | cons r2 rs =>
    cases rs with
    | cons r3 rs =>
      cases rs
      have e1 : _ = V.int i := r2
      have e2 : _ = V.str f := r3
      subst e1 e2
      exact ⟨a, f, i, r1, rfl, hp, hf, q.now s (x := .dat (.str (Txt.ljustF a i (f.cps.getD 0 0)))) rfl g⟩
end
/-! ### x is True, x is not True -/
def gIsB (neg : Bool) : R2 := fun x y H Q => ∃ a b, x = V.bl a ∧ y = V.bl b ∧ Q (.bl (if neg then !decide (a = b) else decide (a = b))) H
section
variable {K : PySem.W.Frag} {env : G.Env} {cs : List Cell} {Φ : Vl → List Cell → Prop} {x y : Vl}
theorem wr_isB {neg a b : Bool} (hx : x = .dat (.bool a)) (hy : y = .dat (.bool b)) (f : Φ (.dat (.bool (if neg then !decide (a = b) else decide (a = b)))) cs) : wpR K (gIsB neg) x y env cs Φ := fun F B H A σ v w s r1 r2 Q q => by
  subst hx hy
  obtain rfl : v = .bl a := r1
  obtain rfl : w = .bl b := r2
  exact ⟨a, b, rfl, rfl, q.now s (x := .dat (.bool (if neg then !decide (a = b) else decide (a = b)))) rfl f⟩
end
end G
/-! sorted(set(a list of tuples of numbers, texts, None and such tuples)) -/
namespace G
open PySem PySem.Spec PyProof.Rows L2 TL PySem.Froz
abbrev NK := PySem.NestedKey
/-- the tuple at a is the key k -/
def NAt (h : Heap) (k : NK) (a : Addr) : Prop := NestedIs h k (.ref a) ∧ k.depth ≤ 8
/-! ### the set -/
def nRow (w : World) (p : Addr × NK) : Int × Value := (p.2.hash w, .ref p.1)
def nHs (w : World) (L : List (Addr × NK)) : List Int := L.map fun p => p.2.hash w
structure NSet (w : World) (h : Heap) (a : Addr) (L : List (Addr × NK)) (es : Array (Int × Value)) (ep : Nat) (t : SetTable) : Prop where
  ob : ∃ o, h.get? a = some o ∧ o.ExactSet ∧ o.data = .set es ep t
  rows : es.toList = L.map (nRow w)
  tab : TabOk t (nHs w L)
  nd : (L.map (·.2)).Nodup
  at_ : ∀ p, p ∈ L → NAt h p.2 p.1
  led : w.params.followText "set-order" = true ∨ t.led = true
  room : L.length * 5 < t.mask * 3
  few : L.length < 77
/-! ### laid anew -/
end G
/-! set(a list of such tuples), and sorted of it -/
namespace G
open PySem PySem.Spec PyProof.Rows L2 TL PySem.Froz
section
variable {P : Program} {w : World} {A : Around} {E : Value → Shared → Prop} {s : Shared}
theorem NSet.keep {h h' : Heap} {a : Addr} {L : List (Addr × NK)} {es : Array (Int × Value)} {ep : Nat} {t : SetTable} (R : NSet w h a L es ep t) (ha : ∀ o, h.get? a = some o → h'.get? a = some o) (ht : ∀ p, p ∈ L → NAt h' p.2 p.1) : NSet w h' a L es ep t := by
  obtain ⟨o, ho, r⟩ := R.ob
  exact ⟨⟨o, ha o ho, r⟩, R.rows, R.tab, R.nd, ht, R.led, R.room, R.few⟩
/-! ### sorted -/
end
end G
/-! sorted(set(xs)), xs a list of data that are such tuples -/
namespace G
open PySem PySem.Spec PyProof.Rows L2 TL PySem.Froz
mutual
def nk : D → Option NK
  | .none => some .none
  | .int i => some (.num i)
  | .str x => some (.text x)
  | .tuple ds => (nkAll ds).map .tup
  | .bool _ => none
  | .list _ => none
  | .dict _ => none
def nkAll : List D → Option (List NK)
  | [] => some []
  | d :: ds => (nk d).bind fun k => (nkAll ds).map fun ks => k :: ks
end
end G
/-! repr of data: known where no repr is under way, as in the law itself -/
namespace G
open PySem PySem.Spec PyProof.Rows L2 TL
/-- a def's promise where it is called by nobody but the asker -/
structure FnAt (P : Program) (w : World) (K : PySem.W.Frag) (mg : Str → Option Value) (base : Heap) (f : Addr) (fd : FuncData) (ps : List Str) (sp : Sp) : Prop where
  len : ∀ vs H Q E, sp vs H Q E → vs.length = ps.length
  run : ∀ (s : Shared) (H : Hp) (args : Args) (us : List Value) (vs : List V) (Q : VK) (E : XK), Env0 P w K mg base callerA [] s H → BindsTo s fd args (ps.zip us) → Vals vs us → sp vs H Q E →
    codeAny (model P w) callerA (.call (.ref f) args) (CR CX0 [] P w H s Q E) s
section
variable {P : Program} {w : World} {K : PySem.W.Frag} {mg : Str → Option Value} {base : Heap}
theorem FnOk.at {k : Nat} {f : Addr} {fd : FuncData} {ps : List Str} {sp : Sp} (F : FnOk P w K mg base CX0 k f fd ps sp) (hr : Room k callerA) : FnAt P w K mg base f fd ps sp :=
  ⟨F.len, fun s H args us vs Q E e0 hb r h => F.run callerA [] s H args us vs Q E hr e0 hb r h⟩
theorem fn_at {x qual : Str} {st : Stmt} {f : Addr} {fd : FuncData} {N ps : List Str} {k : Nat} {a : AS} (Fn : FnP K x qual st f fd) (S : FnScope N ps (defScope st)) (hr : Room (k + 1) callerA) (len : ∀ args cs Φ, a args cs Φ → args.length = ps.length)
    (body : ∀ (cdv : Value) (A : Around) (outer : List PySem.Env) (s : Shared) (H : Hp) (E : XK), Room k (A.deeper (envOfC qual (defScope st) s.heap.objs.size f cdv)) → A.guards = some [] →
      ∃ t, PSs (cxOf CX0 P w K mg base N qual (defScope st) f cdv A outer s H E).nox (defBody st) t ∧
        ∀ args cs Φ, a args cs Φ → G.wpS K t (args.map some ++ List.replicate (N.length - args.length) none) cs { nx := fun e c => G.Fin cs.length (.dat .none) c Φ, rt := fun x c => G.Fin cs.length x c Φ }) :
    FnAt P w K mg base f fd ps (conc K a) := by
  obtain ⟨oc, od, dV, kV, doc, pm, an, cdv, ct, osl, rfl, lk, hcd, _, _⟩ := Fn.ex
  have hlen : ∀ vs H Q E, conc K a vs H Q E → vs.length = ps.length := fun vs H Q E h => by
    obtain ⟨F, B, A, args, cs, Φ, hs, ha, _⟩ := h
    rw [← len args cs Φ ha, (Paired.length (rel_some hs.sl))]
  refine ⟨hlen, fun s H args us vs Q E e0 hb r hsp => ?_⟩
  have kin : K.In s.heap := e0.mod.kin.keeps fun b o e => (e0.bs b o e).1
  have kinds : ∀ y ∈ ps.zip us, (defScope st).names.lookup y.1 = some .local ∨ ((defScope st).names.lookup y.1 = some .cell ∧ ((cellsFrom (s.heap.objs.size + 1) (defScope st).names []).lookup y.1).isSome = true) := fun y hy =>
    (S.par y.1 (List.of_mem_zip (show (y.1, y.2) ∈ _ from hy)).1).imp id fun q => ⟨q, PySem.W.cellsFrom_some _ _ _ (.inl q)⟩
  refine codeAny_call_function hr.depth (kin _ _ lk) rfl S.co S.gen rfl (PySem.W.codeRec_of kin hcd) (hb _ _ _ _ (wpAny_newFunctionEnv_cells S.kind kinds fun env he s1 y => ?_))
  subst he
  refine ⟨(e0.mod.nolimit.keeps fun b o e => (e0.bs b o e).1).keeps y.toInCall.keep, codeAny_func ?_⟩
  obtain ⟨t, ht, hw⟩ := body cdv callerA [] s H E (hr.deeper _) rfl
  have hvl := hlen _ _ _ _ hsp
  obtain ⟨F, B, A0, args0, cs, Φ, hs, ha, q⟩ := hsp
  have I : Inv (cxOf CX0 P w K mg base N qual (defScope st) f cdv callerA [] s H E) [] (L2.start N vs) H s1 := inv_start S hr.hd e0 hvl r y
  have ends : ∀ {τ : L2.St} {H' : Hp} {v : V} {u : Value} {z : Shared}, Inv (cxOf CX0 P w K mg base N qual (defScope st) f cdv callerA [] s H E) [] τ H' z → RelV v u → Q v H' → CE [] P w H s Q u z := fun {τ H' v u z} J rv q => ⟨v, H', J.os, J.bare, J.base, J.hok, rv, q⟩
  have hm : A0.length = cs.length := hs.la
  have hq : t { nx := fun _ H' => Q .non H', rt := Q } (L2.start N vs) H := by
    refine hw args0 cs Φ ha F B H A0 _ (hs.withEnv ?_) _ ?_ ?_ (fun _ _ _ _ _ _ f => f.elim) (fun _ _ _ _ _ _ f => f.elim)
    · unfold L2.start
      refine Paired.app' hs.sl ?_
      rw [Paired.length (rel_some hs.sl)]
      exact Paired.rep (show RpO K B A0 none none from trivial) _
    · exact fun env' cs' σ' B' H' A' f e p s' => fin_end f e p hm s' (show RpV K B' A' (.dat .none) .non from rfl) q
    · exact fun x cs' v env' σ' B' H' A' f e p s' r => fin_end f e p hm s' r q
  refine wpAny_mono (ht.nox.run [] s1 (L2.start N vs) H _ I hq) (fun fl z h => ?_) fun e z h => h
  match fl, h with
  | .ret u, ⟨v, τ, H', J, rv, q⟩ => exact ends J rv q
  | .next, ⟨τ, H', J, q⟩ => exact ends (v := V.non) (u := Value.none) J rfl q
  | .brk, ⟨_, _, _, q⟩ => exact q.elim
  | .cont, ⟨_, _, _, q⟩ => exact q.elim
end
/-- the asker's call of the law -/
theorem ask_law {P : Program} {w : World} {K : PySem.W.Frag} {mg mb : Str → Option Value} {fa a : Addr} {fd : FuncData} {x : Str} {sp : Sp} {s₁ : Shared} {vs : List Value} {ns : List Int}
    (KX : K.In s₁.heap) (hns : s₁.heap.Ns mainGlobals mg) (hb : s₁.heap.Ns builtinsNs mb) (hbb : ∀ x : Str, x ≠ "__name__" → mb x = bootBuiltins x) (hlim : s₁.heap.NoLimit) (hg : s₁.gens = #[])
    (ho : s₁.heap.get? a = some { cls := .type "list", data := .seq vs.toArray }) (hi : IntsAre vs ns) (hl : ns.length ≤ sizeLine)
    (F : ∀ base : Heap, K.In base → base.Ns mainGlobals mg → FnAt P w K mg base fa fd [x] sp) (hbind : ∀ (s : Shared) (u : Value), BindsTo s fd ⟨[u], []⟩ [(x, u)])
    (hsp : ∀ H : Hp, Only H → SqL K H a (ns.map V.int) → sp [.ref a] H (fun v _ => v = .bl true) fun _ _ _ => False) :
    codeAny (model P w) callerA (.call (.ref fa) ⟨[.ref a], []⟩) (fun r s' => r = .ok (.ret (.bool true)) ∧ OldK s₁.heap s'.heap ∧ s'.os = s₁.os ∧ AllBare s'.gens) s₁ := by
  have rv := vals_ints hi
  have hll := hi.length
  -- H tracks nothing but the script, if at all
  have main : ∀ H : Hp, Only H → SqL K H a (ns.map V.int) → HOk P w H s₁.heap → (∀ b, H b ≠ none → b = a) → (H a ≠ none → K.lookup a = none) →
      codeAny (model P w) callerA (.call (.ref fa) ⟨[.ref a], []⟩) (fun r s' => r = .ok (.ret (.bool true)) ∧ OldK s₁.heap s'.heap ∧ s'.os = s₁.os ∧ AllBare s'.gens) s₁ := fun H hO hS hok hA hK => by
    have free : ∀ {b : Addr} {o : Obj}, s₁.heap.get? b = some o → (∀ u, o ≠ { cls := .type "list", data := .seq vs.toArray } ∨ H b ≠ some u) → H b = none := fun {b o} e n => by
      cases q : H b with
      | none => rfl
      | some u =>
        obtain rfl : b = a := hA b (by rw [q]; simp)
        rcases n u with z | z
        · exact absurd (Option.some.inj (e.symm.trans ho)) z
        · exact absurd q z
    have spaces : ∀ {b : Addr} {m : Str → Option Value}, s₁.heap.Ns b m → (hidT s₁.heap H).Ns b m := fun {b m} ⟨o, es, ep, e, d, r⟩ => ⟨o, es, ep, hidT_get e (free e fun u => .inl fun z => by rw [z] at d; cases d), d, r⟩
    have kin : K.In (hidT s₁.heap H) := fun b o e => hidT_get (KX b o e) (by
      cases q : H b with
      | none => rfl
      | some u =>
        obtain rfl : b = a := hA b (by rw [q]; simp)
        rw [hK (by rw [q]; simp)] at e
        cases e)
    obtain ⟨mc, l1, l2⟩ := hlim
    have e0 : Env0 P w K mg (hidT s₁.heap H) callerA [] s₁ H := ⟨rfl, ⟨kin, spaces hns, ⟨mb, spaces hb, hbb⟩, mc, spaces l1, l2⟩, fun b o e => of_hidT e, Nat.le_of_eq (hidT_size _ _), trivial, fun b z => (List.not_mem_nil z).elim, hok, .of_eq hg⟩
    refine codeAny_mono ((F _ kin (spaces hns)).run s₁ H ⟨[.ref a], []⟩ [.ref a] [.ref a] _ _ e0 (hbind s₁ (.ref a)) (.cons rfl .nil) (hsp H hO hS)) fun r s' h => ?_
    match r, h with
    | .ok (.ret u), ⟨v, H', os, bare, un, hok', rr, q⟩ =>
      obtain rfl : v = .bl true := q
      obtain rfl : u = Value.bool true := rr
      refine ⟨rfl, OldK.of_keep fun b o e => ?_, os, bare⟩
      cases q : H b with
      | none => exact un.keep b o e q List.not_mem_nil List.not_mem_nil
      | some u =>
        rcases hO b with z | ⟨ob, xs, z⟩
        · rw [q] at z
          cases z
        · have g1 := (hok b _ z).1
          rw [e] at g1
          cases g1
          exact (hok' b _ (un.frzs b _ _ z)).1
  cases hk : K.lookup a with
  | some o =>
    have e := KX a o hk
    rw [ho] at e
    cases e
    exact main (fun _ => none) (fun _ => .inl rfl) (.inr ⟨_, vs.toArray, _, hk, rfl, rfl, rfl, by rw [List.size_toArray, hll]; exact hl, by simpa using rv⟩) (fun b u z => nomatch z) (fun b z => absurd rfl z) fun z => absurd rfl z
  | none =>
    have at_ : (fun b => if b = a then some (HO.frz { cls := .type "list", data := .seq vs.toArray } (.lst (ns.map V.int))) else none) a = some (HO.frz { cls := .type "list", data := .seq vs.toArray } (.lst (ns.map V.int))) := if_pos rfl
    refine main _ (fun b => ?_) (.inl (.inr ⟨_, at_⟩)) (fun b u z => ?_) (fun b z => Classical.byContradiction fun n => z (if_neg n)) fun _ => hk
    · by_cases n : b = a
      · exact .inr ⟨_, _, if_pos n⟩
      · exact .inl (if_neg n)
    · by_cases n : b = a
      · subst n
        cases at_.symm.trans z
        exact ⟨ho, by rw [List.length_map]; exact hl, vs, _, rv, ho⟩
      · cases (if_neg n).symm.trans z
/-- a law's end over a head by facts -/
theorem walk_ofG {l : PySem.W.OpenLaw} {n : Nat} {q : Program} {loose : List Str} {XP : (Str → Option Value) → Heap → Prop} {YP : World → Heap → Prop} {d : DefRec} {x : Str}
    (hn : l.most = some n) (hn2 : n ≤ sizeLine) (hdf : d.params.defaults = [])
    (F : ∀ (w : World) (mg : Str → Option Value) (fa : Addr) (h : Heap), YP w h → h.Ns mainGlobals mg → mg d.name = some (.ref fa) →
      ∃ (K : PySem.W.Frag) (fd : FuncData) (sp : Sp), K.In h ∧ (∀ (s : Shared) (u : Value), BindsTo s fd ⟨[u], []⟩ [(x, u)]) ∧
        (∀ (H : Hp) (a : Addr) (ns : List Int), ns.length ≤ n → Only H → SqL K H a (ns.map V.int) → sp [.ref a] H (fun v _ => v = .bl true) fun _ _ _ => False) ∧
        ∀ base : Heap, K.In base → base.Ns mainGlobals mg → FnAt l.prog w K mg base fa fd [x] sp) :
    PySem.W.WalkO q loose XP YP l.row.toRowW d [] (fun f vs => PySem.call f vs) :=
  Att.attach_call hn hdf fun w s₀ s₁ mg mb fa o pm cd doc a vs ns G Y ho hd hcd hmg hobj hints hlen hg => by
    obtain ⟨K, fd, sp, KX, hb, hsp, hF⟩ := F w mg fa _ Y G.T.g hmg
    exact ask_law KX G.T.g G.T.b G.T.builtins G.T.nolimit hg hobj hints (Nat.le_trans hlen hn2) hF hb fun H hO hS => hsp H a ns hlen hO hS
/-! ### repr -/
mutual
theorem plain_noDict : ∀ d : D, d.plain = true → d.hasDict = false
  | .none, _ => rfl
  | .bool _, _ => rfl
  | .int _, _ => rfl
  | .str _, _ => rfl
  | .list ds, h => plainAll_noDict ds (by simpa [PyData.plain] using h)
  | .tuple ds, h => plainAll_noDict ds (by simpa [PyData.plain] using h)
  | .dict _, h => nomatch h
theorem plainAll_noDict : ∀ ds : List D, PyData.plainAll ds = true → PyData.hasDictAll ds = false
  | [], _ => rfl
  | d :: ds, h => by
    have h2 : d.plain = true ∧ PyData.plainAll ds = true := by simpa [PyData.plainAll] using h
    show (d.hasDict || PyData.hasDictAll ds) = false
    rw [plain_noDict d h2.1, plainAll_noDict ds h2.2]
    rfl
end
/-- data whose repr has at most n signs -/
def Sh (n : Nat) (d : D) : Prop := PD 50 d ∧ d.showable = true ∧ d.shown.length ≤ n
def gRepr (K : PySem.W.Frag) : List V → Hp → VK → Prop := fun xs H Q => ∃ (v : V) (d : D), xs = [v] ∧ Rp K H d v ∧ Sh 10000000 d ∧ Q (.str d.shown) H
section
variable {X : Cx} {K : PySem.W.Frag}
theorem kc_repr (hK : X.K = K) (hg : X.A.guards = some []) (hu : X.A.units + 64 < cLine) : CallR X (.builtin "repr") (gRepr K) := by
  subst hK
  intro pins s σ H xs us Q I r h
  obtain ⟨v, d, rfl, hd, ⟨⟨hp, hdp⟩, hs, hz⟩, q⟩ := h
  obtain ⟨u, rfl, rv⟩ := vals1 r
  have hz2 : d.shown.length ≤ sizeLine := Nat.le_trans hz (by rw [sizeLine_eq]; decide)
  have seq : ∀ a, u = .ref a → wpAny (model X.prog X.w) X.A (call (.builtin "repr") [u]) (EP X pins σ Q) X.xe s := fun a e => by
    obtain ⟨as, rd⟩ := Rp.reads I d v u hp hd rv
    subst e
    exact repr_of_reads' rd hs (PyData.noDict_hsm (plain_noDict d hp)) hg (by omega) (fun _ _ e => e) (fun h' z tk k => ⟨.str d.shown, H, I.kept (t' := tk) k, ⟨z, rfl⟩, q⟩) hz2
  cases d with
  | none =>
    cases hd
    cases rv
    exact PySem.P.repr_of_none ⟨.str _, H, I.tok _, ⟨_, rfl⟩, q⟩
  | bool b =>
    cases hd
    cases rv
    refine PySem.P.repr_of_bool ⟨.str (if b then "True" else "False"), H, I.tok _, ⟨_, by cases b <;> rfl⟩, ?_⟩
    cases b <;> exact q
  | int i =>
    cases hd
    obtain ⟨t, rfl⟩ := rv
    exact PySem.P.repr_of_int (of_decide_eq_true hs) ⟨.str _, H, I.tok _, ⟨_, rfl⟩, q⟩
  | str x =>
    cases hd
    obtain ⟨t, rfl⟩ := rv
    exact PySem.P.repr_of_str ⟨.str _, H, I.tok _, ⟨_, rfl⟩, q⟩ hz2
  | list ds =>
    obtain ⟨a, vs, rfl, _⟩ := hd
    exact seq a rv
  | tuple ds =>
    obtain ⟨a, vs, rfl, _⟩ := hd
    exact seq a rv
  | dict _ => cases hp
end
section
variable {K : PySem.W.Frag} {env : G.Env} {cs : List Cell} {Φ : Vl → List Cell → Prop} {x : Vl}
theorem wc_repr {d : D} (hx : DatOf cs x d) (hd : Sh 10000000 d) (f : Φ (.dat (.str d.shown)) cs) : wpC K (gRepr K) [x] env cs Φ := fun F B H A σ vs s r Q q => by
  cases r with
  | cons r1 r2 =>
    cases r2
    exact ⟨_, d, rfl, s.asD r1 hx, hd, q.now s (x := .dat (.str d.shown)) rfl f⟩
end
/-! ### how long it is -/
theorem Sh.mono {m n : Nat} {d : D} (h : Sh m d) (l : m ≤ n) : Sh n d := ⟨h.1, h.2.1, Nat.le_trans h.2.2 l⟩
theorem sh_none : Sh 4 .none := ⟨pd_none, rfl, by decide +kernel⟩
theorem sh_str {x : Str} {n : Nat} (h : ∀ c, c ∈ tl x → c < 16 ^ 8) (l : x.length ≤ n) : Sh (10 * n + 2) (.str x) :=
  ⟨pd_str, rfl, Nat.le_trans (StrLaws.reprText_len x h) (by omega)⟩
theorem shownAll_map : ∀ ds : List D, PyData.shownAll ds = ds.map PyData.shown
  | [] => rfl
  | d :: ds => congrArg (d.shown :: ·) (shownAll_map ds)
theorem showableAll_mem : ∀ {ds : List D}, (∀ d, d ∈ ds → d.showable = true) → PyData.showableAll ds = true
  | [], _ => rfl
  | d :: ds, h => by
    show (d.showable && PyData.showableAll ds) = true
    rw [h d List.mem_cons_self, showableAll_mem fun e he => h e (List.mem_cons_of_mem _ he)]
    rfl
theorem piled_le : ∀ {n : Nat} {ts : List Str}, (∀ t, t ∈ ts → t.length ≤ n) → piled ts ≤ ts.length * (n + 2)
  | _, [], _ => Nat.zero_le _
  | n, t :: ts, h => by
    have h1 := h t List.mem_cons_self
    have h2 := piled_le fun u hu => h u (List.mem_cons_of_mem _ hu)
    rw [piled_cons, List.length_cons, Nat.succ_mul]
    omega
theorem sh_tup {ds : List D} {n : Nat} (h : ∀ d, d ∈ ds → Sh n d) (p : PD 50 (.tuple ds)) : Sh (ds.length * (n + 2) + 2) (.tuple ds) := by
  refine ⟨p, showableAll_mem fun d hd => (h d hd).2.1, ?_⟩
  show (tupleText (PyData.shownAll ds)).length ≤ _
  have h1 := fmt_text (PyData.shownAll ds)
  rw [shownAll_map] at h1 ⊢
  have h2 := piled_le (n := n) (ts := ds.map PyData.shown) fun t ht => by
    obtain ⟨d, hd, rfl⟩ := List.mem_map.mp ht
    exact (h d hd).2.2
  rw [List.length_map] at h2
  omega
end G
/-! dicts whose values are lists that still grow: d.setdefault(k, []).append(x) -/
namespace G
open PySem PySem.Spec PyProof.Rows L2 TL
/-! ### the rows of such a dict: a key, and what its list holds -/
end G
/-! the lists of such a dict become data -/
namespace G
open PySem PySem.Spec PyProof.Rows L2 TL
/-! ### all lists of the dict -/
end G
/-! trees by names, voices: plain functions -/
open PySem PySem.Spec PyProof.Rows L2 TL
namespace G
/-! ### the root above -/
/-! ### gathered under keys -/
/-! ### the letter that speaks -/
def dnLt (a b : Int × Str) : Bool := PySem.W.dataLt (dnD a) (dnD b)
theorem minA_mem {α : Type} (lt : α → α → Bool) : ∀ (xs : List α) (x : α), minA lt x xs ∈ x :: xs
  | [], x => List.mem_cons_self
  | y :: xs, x => by
    show minA lt (if lt y x then y else x) xs ∈ _
    have h := minA_mem lt xs (if lt y x then y else x)
    rcases List.mem_cons.mp h with e | e
    · rw [e]
      split
      · exact List.mem_cons_of_mem _ List.mem_cons_self
      · exact List.mem_cons_self
    · exact List.mem_cons_of_mem _ (List.mem_cons_of_mem _ e)
/-! ### pairs of texts in order -/
end G
/-! the forest: trees put together by heads, plainly -/
open PySem PySem.Spec PyProof.Rows L2 TL
namespace G
/-! ### all that is gathered -/
/-! ### trees by their heads -/
section
variable (B : Str → Str) (An : Str → Bool)
/-- who is shown: whoever bears a letter, and all above -/
def ShP (f : Str → Option Str) (ls : List Lr) (n : Str) : Prop := ∃ l, l ∈ standL ls ∧ ∃ k, iterO f k (some l.1) = some n
end
/-! ### what the ties by heads are -/
end G
/-! letters as keys; d.setdefault(k, data); first days -/
open PySem PySem.Spec PyProof.Rows L2 TL
namespace G
theorem lr_inj {a b : Lr} (h : lrD a = lrD b) : a = b := by
  have e := lr_eqv a b
  rw [h, PySem.SeqAt.eqv_refl_plain _ lr_plain] at e
  exact of_decide_eq_true e.symm
/-! ### the first day of each name -/
/-! ### roots -/
/-! ### how long what is told is -/
theorem sh_nm {z : Str} (h : ∀ c, c ∈ tl z → c < 16 ^ 8) (l : z.length ≤ 12) : Sh 122 (.str z) := sh_str h l
theorem sh_list {α : Type} {f : α → D} {n : Nat} {xs : List α} (h : ∀ x, x ∈ xs → Sh n (f x)) (p : ∀ x, x ∈ xs → PD 49 (f x)) : Sh (xs.length * (n + 2) + 2) (.tuple (xs.map f)) := by
  have := sh_tup (ds := xs.map f) (n := n) (fun d hd => by
    obtain ⟨x, hx, rfl⟩ := List.mem_map.mp hd
    exact h x hx) (pd_tup (n := 49) (pd_map p))
  rwa [List.length_map] at this
end G
/-! the forest: what its walks need -/
open PySem PySem.Spec PyProof.Rows L2 TL
namespace G
theorem EnvB.odat {m : Nat} {e : Env} {o : Option D} (t : EnvB m e) : EnvB m (o.map .dat :: e) := by
  cases o with
  | none => exact EnvB.none t
  | some d => exact EnvB.dat t
/-! ### who is shown -/
theorem ShP.up {f : Str → Option Str} {ls : List Lr} {a b : Str} (h : ShP f ls a) (e : f a = some b) : ShP f ls b := by
  obtain ⟨l, hl, k, hk⟩ := h
  exact ⟨l, hl, k + 1, by rw [iterO_succ, hk]; exact e⟩
theorem iterO_in {f : Str → Option Str} {P : Str → Prop} (hP : ∀ a b, P a → f a = some b → P b) : ∀ (k : Nat) {a b : Str}, P a → iterO f k (some a) = some b → P b
  | 0, a, b, h, e => by
    cases e
    exact h
  | k + 1, a, b, h, e => by
    rw [iterO_succ] at e
    obtain ⟨x, h1, h2⟩ := Option.bind_eq_some_iff.mp e
    exact hP x b (iterO_in hP k h h1) h2
/-- what the walk up has marked -/
structure ShI (f : Str → Option Str) (S : Str → Prop) (ks : List Str) (o : Option Str) : Prop where
  nd : ks.Nodup
  sub : ∀ k, k ∈ ks → S k
  cur : ∀ a, o = some a → S a
  cl : ∀ k b, k ∈ ks → f k = some b → b ∈ ks ∨ o = some b
theorem ShI.nil {f : Str → Option Str} {S : Str → Prop} : ShI f S [] none := ⟨List.nodup_nil, (fun _ h => nomatch h), nofun, fun _ _ h => nomatch h⟩
theorem ShI.go {f : Str → Option Str} {S : Str → Prop} {ks : List Str} {a : Str} (h : ShI f S ks none) (ha : S a) : ShI f S ks (some a) :=
  ⟨h.nd, h.sub, fun b e => by cases e; exact ha, fun k b hk e => (h.cl k b hk e).imp id nofun⟩
theorem ShI.step {f : Str → Option Str} {S : Str → Prop} {ks : List Str} {a : Str} (h : ShI f S ks (some a)) (hS : ∀ a b, S a → f a = some b → S b) (hn : a ∉ ks) : ShI f S (ks ++ [a]) (f a) := by
  refine ⟨List.nodup_append.mpr ⟨h.nd, by simp, fun x hx y hy => ?_⟩, fun k hk => ?_, fun b e => hS a b (h.cur a rfl) e, fun k b hk e => ?_⟩
  · rw [List.mem_singleton.mp hy]
    exact fun z => hn (by rw [← z]; exact hx)
  · rcases List.mem_append.mp hk with hk | hk
    · exact h.sub k hk
    · rw [List.mem_singleton.mp hk]
      exact h.cur a rfl
  · rcases List.mem_append.mp hk with hk | hk
    · rcases h.cl k b hk e with q | q
      · exact .inl (List.mem_append_left _ q)
      · cases q
        exact .inl (List.mem_append_right _ List.mem_cons_self)
    · rw [List.mem_singleton.mp hk] at e
      exact .inr e
theorem ShI.all {f : Str → Option Str} {ls : List Lr} {ks : List Str} (h : ShI f (ShP f ls) ks none) (hl : ∀ l, l ∈ standL ls → l.1 ∈ ks) (n : Str) : n ∈ ks ↔ ShP f ls n :=
  ⟨h.sub n, fun ⟨l, hl2, k, e⟩ => iterO_in (P := fun n => n ∈ ks) (fun a b ha e => (h.cl a b ha e).elim id nofun) k (hl l hl2) e⟩
/-! ### elders in the forest -/
end G
/-! a part of a row that has no dict has none -/
open PySem PySem.Spec PyProof.Rows L2 TL
namespace G
/-! ### what a hand holds stays -/
end G
/-! set(a tuple of such tuples) -/
namespace G
open PySem PySem.Spec PyProof.Rows L2 TL PySem.Froz
/-! ### fewer marks; heads -/
theorem head_asc {z : Str} (h : isHead (.str z) = true) : Asc z ∧ z.length ≤ 200 := by
  have h' : (decide (z.length ≤ 60) && (tl z).all fun c => decide (32 ≤ c) && decide (c ≤ 126)) = true := h
  rw [Bool.and_eq_true, decide_eq_true_eq, List.all_eq_true] at h'
  refine ⟨fun c hc => ?_, by omega⟩
  have := h'.2 c hc
  rw [Bool.and_eq_true, decide_eq_true_eq, decide_eq_true_eq] at this
  omega
end G
/-! the forest has no ring; who is shown; what its reasons are -/
open PySem PySem.Spec PyProof.Rows L2 TL
namespace G
end G
/-! a mark put over an older one makes no ring either -/
open PySem PySem.Spec PyProof.Rows L2 TL
namespace G
/-! ### reasons -/
end G
/-! what stands alone counts: voices and forest by the standing letters -/
open PySem PySem.Spec PyProof.Rows L2 TL
namespace G
theorem stA_find (n : Str) : ∀ (ls : List Lr) (o : Option Str), o ≠ some n → (standA o ls).find? (fun l => decide (l.1 = n)) = ls.find? fun l => decide (l.1 = n)
  | [], _, _ => rfl
  | l :: r, o, h => by
    rw [standA]
    by_cases e : o = some l.1
    · rw [if_pos e, List.find?_cons_of_neg (by rw [decide_eq_true_eq]; exact fun z => h (by rw [e, z])), stA_find n r o h]
    · rw [if_neg e]
      by_cases z : l.1 = n
      · rw [List.find?_cons_of_pos (by exact decide_eq_true z), List.find?_cons_of_pos (by exact decide_eq_true z)]
      · rw [List.find?_cons_of_neg (by rw [decide_eq_true_eq]; exact z), List.find?_cons_of_neg (by rw [decide_eq_true_eq]; exact z), stA_find n r (some l.1) fun q => z (Option.some.inj q)]
theorem st_find (n : Str) (ls : List Lr) : (standL ls).find? (fun l => decide (l.1 = n)) = ls.find? fun l => decide (l.1 = n) := stA_find n ls none nofun
theorem find_first {α : Type} {R : α → α → Prop} {p : α → Bool} : ∀ {xs : List α} {l x : α}, xs.Pairwise R → xs.find? p = some l → x ∈ xs → p x = true → x = l ∨ R l x
  | y :: xs, l, x, hp, hf, hx, px => by
    obtain ⟨h1, h2⟩ := List.pairwise_cons.mp hp
    by_cases e : p y = true
    · rw [List.find?_cons_of_pos e] at hf
      cases hf
      exact (List.mem_cons.mp hx).imp id (h1 x)
    · rw [List.find?_cons_of_neg e] at hf
      rcases List.mem_cons.mp hx with rfl | hx
      · exact absurd px e
      · exact find_first h2 hf hx px
theorem stand_least {ls : List Lr} (hp : PRise ls) {l x : Lr} (h : l ∈ standL ls) (hx : x ∈ ls) (e : x.1 = l.1) : x = l ∨ PySem.W.dataLt (lrD l) (lrD x) = true := by
  have h1 : (standL ls).find? (fun x => decide (x.1 = l.1)) = some l := by
    rw [← List.head?_filter, stand_one hp h]
    rfl
  rw [st_find] at h1
  exact find_first (R := fun a b => PySem.W.dataLt (lrD a) (lrD b) = true) (List.pairwise_map.mp hp) h1 hx (decide_eq_true e)
theorem rise_of_lt {xs : List Lr} : xs.Pairwise (fun a b => PySem.W.dataLt (lrD a) (lrD b) = true) ↔ PRise xs := by
  unfold PRise
  rw [List.pairwise_map]
theorem stand_subl : ∀ (ls : List Lr) (o : Option Str), (standA o ls).Sublist ls
  | [], _ => List.Sublist.refl _
  | x :: r, o => by
    unfold standA
    split
    · exact (stand_subl r o).cons x
    · exact (stand_subl r _).cons₂ x
theorem stand_prise {ls : List Lr} (hp : PRise ls) : PRise (standL ls) := List.Pairwise.sublist ((stand_subl ls none).map lrD) hp
/-- two rising packs of the same letters are the same -/
theorem rise_same : ∀ {xs ys : List Lr}, PRise xs → PRise ys → (∀ l, l ∈ xs ↔ l ∈ ys) → xs = ys
  | [], [], _, _, _ => rfl
  | [], y :: ys, _, _, h => absurd ((h y).mpr List.mem_cons_self) (by simp)
  | x :: xs, [], _, _, h => absurd ((h x).mp List.mem_cons_self) (by simp)
  | x :: xs, y :: ys, h1, h2, h => by
    have a1 := (List.pairwise_cons.mp (rise_of_lt.mpr h1))
    have a2 := (List.pairwise_cons.mp (rise_of_lt.mpr h2))
    have e : x = y := by
      rcases List.mem_cons.mp ((h x).mp List.mem_cons_self) with e | hx
      · exact e
      · rcases List.mem_cons.mp ((h y).mpr List.mem_cons_self) with e | hy
        · exact e.symm
        · have b1 := a1.1 y hy
          have b2 := a2.1 x hx
          rw [dlt_asymm b1] at b2
          cases b2
    subst e
    refine congrArg _ (rise_same h1.tail h2.tail fun l => ⟨fun hl => ?_, fun hl => ?_⟩)
    · rcases List.mem_cons.mp ((h l).mp (List.mem_cons_of_mem _ hl)) with e | g
      · have := a1.1 l hl
        rw [e, dlt_irr] at this
        cases this
      · exact g
    · rcases List.mem_cons.mp ((h l).mpr (List.mem_cons_of_mem _ hl)) with e | g
      · have := a2.1 l hl
        rw [e, dlt_irr] at this
        cases this
      · exact g
end G
/-! defs that call repr themselves: promises where no repr is under way -/
namespace G
open PySem PySem.Spec PyProof.Rows L2 TL
structure FnOkG (P : Program) (w : World) (K : PySem.W.Frag) (mg : Str → Option Value) (base : Heap) (k : Nat) (f : Addr) (fd : FuncData) (ps : List Str) (sp : Sp) : Prop where
  len : ∀ vs H Q E, sp vs H Q E → vs.length = ps.length
  run : ∀ (A : Around) (outer : List PySem.Env) (s : Shared) (H : Hp) (args : Args) (us : List Value) (vs : List V) (Q : VK) (E : XK), Room k A → A.guards = some [] → Env0 P w K mg base A outer s H → BindsTo s fd args (ps.zip us) → Vals vs us → sp vs H Q E →
    codeAny (model P w) A (.call (.ref f) args) (CR CX0 outer P w H s Q E) s
section
variable {P : Program} {w : World} {K : PySem.W.Frag} {mg : Str → Option Value} {base : Heap}
theorem fn_absG {x qual : Str} {st : Stmt} {f : Addr} {fd : FuncData} {N ps : List Str} {k : Nat} {a : AS} (Fn : FnP K x qual st f fd) (S : FnScope N ps (defScope st)) (len : ∀ args cs Φ, a args cs Φ → args.length = ps.length)
    (body : ∀ (cdv : Value) (A : Around) (outer : List PySem.Env) (s : Shared) (H : Hp) (E : XK), Room k (A.deeper (envOfC qual (defScope st) s.heap.objs.size f cdv)) → A.guards = some [] →
      ∃ t, PSs (cxOf CX0 P w K mg base N qual (defScope st) f cdv A outer s H E).nox (defBody st) t ∧
        ∀ args cs Φ, a args cs Φ → G.wpS K t (args.map some ++ List.replicate (N.length - args.length) none) cs { nx := fun e c => G.Fin cs.length (.dat .none) c Φ, rt := fun x c => G.Fin cs.length x c Φ }) :
    FnOkG P w K mg base (k + 1) f fd ps (conc K a) := by
  obtain ⟨oc, od, dV, kV, doc, pm, an, cdv, ct, osl, rfl, lk, hcd, _, _⟩ := Fn.ex
  have hlen : ∀ vs H Q E, conc K a vs H Q E → vs.length = ps.length := fun vs H Q E h => by
    obtain ⟨F, B, A, args, cs, Φ, hs, ha, _⟩ := h
    rw [← len args cs Φ ha, (Paired.length (rel_some hs.sl))]
  refine ⟨hlen, fun A outer s H args us vs Q E hr hgd e0 hb r hsp => ?_⟩
  have kin : K.In s.heap := e0.mod.kin.keeps fun b o e => (e0.bs b o e).1
  have kinds : ∀ y ∈ ps.zip us, (defScope st).names.lookup y.1 = some .local ∨ ((defScope st).names.lookup y.1 = some .cell ∧ ((cellsFrom (s.heap.objs.size + 1) (defScope st).names []).lookup y.1).isSome = true) := fun y hy =>
    (S.par y.1 (List.of_mem_zip (show (y.1, y.2) ∈ _ from hy)).1).imp id fun q => ⟨q, PySem.W.cellsFrom_some _ _ _ (.inl q)⟩
  refine codeAny_call_function hr.depth (kin _ _ lk) rfl S.co S.gen rfl (PySem.W.codeRec_of kin hcd) (hb _ _ _ _ (wpAny_newFunctionEnv_cells S.kind kinds fun env he s1 y => ?_))
  subst he
  refine ⟨(e0.mod.nolimit.keeps fun b o e => (e0.bs b o e).1).keeps y.toInCall.keep, codeAny_func ?_⟩
  obtain ⟨t, ht, hw⟩ := body cdv A outer s H E (hr.deeper _) hgd
  have hvl := hlen _ _ _ _ hsp
  obtain ⟨F, B, A0, args0, cs, Φ, hs, ha, q⟩ := hsp
  have I : Inv (cxOf CX0 P w K mg base N qual (defScope st) f cdv A outer s H E) [] (L2.start N vs) H s1 := inv_start S hr.hd e0 hvl r y
  have ends : ∀ {τ : L2.St} {H' : Hp} {v : V} {u : Value} {z : Shared}, Inv (cxOf CX0 P w K mg base N qual (defScope st) f cdv A outer s H E) [] τ H' z → RelV v u → Q v H' → CE outer P w H s Q u z := fun {τ H' v u z} J rv q => ⟨v, H', J.os, J.bare, J.base, J.hok, rv, q⟩
  have hm : A0.length = cs.length := hs.la
  have hq : t { nx := fun _ H' => Q .non H', rt := Q } (L2.start N vs) H := by
    refine hw args0 cs Φ ha F B H A0 _ (hs.withEnv ?_) _ ?_ ?_ (fun _ _ _ _ _ _ f => f.elim) (fun _ _ _ _ _ _ f => f.elim)
    · unfold L2.start
      refine Paired.app' hs.sl ?_
      rw [Paired.length (rel_some hs.sl)]
      exact Paired.rep (show RpO K B A0 none none from trivial) _
    · exact fun env' cs' σ' B' H' A' f e p s' => fin_end f e p hm s' (show RpV K B' A' (.dat .none) .non from rfl) q
    · exact fun x cs' v env' σ' B' H' A' f e p s' r => fin_end f e p hm s' r q
  refine wpAny_mono (ht.nox.run [] s1 (L2.start N vs) H _ I hq) (fun fl z h => ?_) fun e z h => h
  match fl, h with
  | .ret u, ⟨v, τ, H', J, rv, q⟩ => exact ends J rv q
  | .next, ⟨τ, H', J, q⟩ => exact ends (v := V.non) (u := Value.none) J rfl q
  | .brk, ⟨_, _, _, q⟩ => exact q.elim
  | .cont, ⟨_, _, _, q⟩ => exact q.elim
end
section
variable {X : Cx} {k : Nat} {f C : Addr} {fd : FuncData} {ps : List Str} {sp : Sp} {dvs : List V} {ds : List Value} {E : XK} {x m : Str} {p pos apos : Pos} {e o : Expr} {es : List Expr} {ta : TE} {t : TA}
theorem run_fnG {pins : List (Addr × Obj)} {σ : L2.St} {H : Hp} {s : Shared} {Q : VK} {us : List Value} {vs : List V} (F : FnOkG X.prog X.w X.K X.mg X.base k f fd ps sp) (hgd : X.A.guards = some []) (hr : Room k X.A) (hb : Binds X.K fd ps ds) (hd : Vals dvs ds) (hx : Passes CX0 X E)
    (I : Inv X pins σ H s) (r : Vals vs us) (h : sp (vs ++ dvs) H Q E) : wpAny (model X.prog X.w) X.A (call (.ref f) us) (EP X pins σ Q) X.xe s := by
  have r2 : Vals (vs ++ dvs) (us ++ ds) := r.append hd
  have hl : (us ++ ds).length = ps.length := by rw [← r2.length]; exact F.len _ _ _ _ h
  refine wpAny_call (codeAny_mono (F.run X.A X.stack s H ⟨us, []⟩ (us ++ ds) (vs ++ dvs) Q E hr hgd I.env0 (hb s us I.kIn hl) r2 h) fun r s' hq => ?_)
  cases r with
  | error e => exact hx pins σ H s e s' I hq
  | ok fl =>
    cases fl with
    | ret u => exact I.after hq
    | next => exact False.elim hq
    | brk => exact False.elim hq
    | cont => exact False.elim hq
theorem pe_callG (F : FnOkG X.prog X.w X.K X.mg X.base k f fd ps sp) (hgd : X.A.guards = some []) (hr : Room k X.A) (hg : Gl X x) (hm : X.mg x = some (.ref f)) (hk : PySem.W.keepIn X.K (.ref f) = true) (hb : Binds X.K fd ps ds) (hd : Vals dvs ds) (hx : Passes CX0 X E)
  (ha : PA X (e :: es) t) (hdb : (x == ("__debug__" : Str)) = false := by decide) (he : starEach (e :: es) X.env = (false, eval e X.env) :: starEach es X.env := by rfl) (hpl : (backTo pos (starEach es X.env)).any (·.1) = false := by rfl) :
    PE X (.Call (.Name x p) (e :: es) [] pos) (tCall sp dvs E t) := by
  refine ⟨fun pins s σ H Q I h => ?_⟩
  refine wpAny_Call_Name_kw (ld_glob I hg hm ?_ hdb)
  refine PySem.W.callWith_K (h₀ := X.base) I.ok.mod.kin hk (thn (ha.run pos pins s σ H _ I h) fun us s1 ⟨vs, H1, I1, r, q⟩ => ⟨I1.kIn, ?_⟩) he hpl
  exact run_fnG F hgd hr hb hd hx I1 r q
end
end G
/-! letters more, of names that no letter bears: who chooses otherwise then -/
open PySem PySem.Spec PyProof.Rows L2 TL
namespace G
theorem stand_iff {ls : List Lr} (hp : PRise ls) {l : Lr} : l ∈ standL ls ↔ l ∈ ls ∧ ∀ x, x ∈ ls → x.1 = l.1 → x = l ∨ PySem.W.dataLt (lrD l) (lrD x) = true := by
  constructor
  · exact fun h => ⟨stand_sub h, fun x hx e => stand_least hp h hx e⟩
  · rintro ⟨h1, h2⟩
    obtain ⟨x, hx, e⟩ := stand_all h1
    rcases h2 x (stand_sub hx) e with e2 | g
    · rw [← e2]
      exact hx
    · rcases stand_least hp hx h1 e.symm with e2 | g2
      · rw [e2]
        exact hx
      · rw [dlt_asymm g] at g2
        cases g2
/-- the same pack with letters more, of other names -/
structure Ext (ls qs : List Lr) : Prop where
  sub : ∀ l, l ∈ ls → l ∈ qs
  new : ∀ q, q ∈ qs → q ∈ ls ∨ q.1 ∉ ls.map (·.1)
section
variable {ls qs : List Lr} {ms : List Mk}
theorem Ext.stand (x : Ext ls qs) (hp : PRise ls) (hq : PRise qs) : (standL qs).filter (fun l => decide (l.1 ∈ ls.map (·.1))) = standL ls := by
  refine rise_same (List.Pairwise.sublist (List.filter_sublist.map lrD) (stand_prise hq)) (stand_prise hp) fun l => ?_
  rw [List.mem_filter, decide_eq_true_eq, stand_iff hp, stand_iff hq]
  constructor
  · rintro ⟨⟨h1, h2⟩, h3⟩
    have hl : l ∈ ls := (x.new l h1).resolve_right fun z => z h3
    exact ⟨hl, fun y hy => h2 y (x.sub y hy)⟩
  · rintro ⟨h1, h2⟩
    have hn : l.1 ∈ ls.map (·.1) := List.mem_map.mpr ⟨l, h1, rfl⟩
    refine ⟨⟨x.sub l h1, fun y hy e => ?_⟩, hn⟩
    refine h2 y ((x.new y hy).resolve_right fun z => z (by rw [e]; exact hn)) e
theorem fm_congr {α β : Type} {f g : α → Option β} : ∀ {xs : List α}, (∀ x, x ∈ xs → f x = g x) → xs.filterMap f = xs.filterMap g
  | [], _ => rfl
  | x :: xs, h => by
    rw [List.filterMap_cons, List.filterMap_cons, h x List.mem_cons_self, fm_congr fun y hy => h y (List.mem_cons_of_mem _ hy)]
end
/-! ### ways -/
theorem goL_len (f : Str → Option Str) : ∀ (N : Nat) (o : Option Str), (goL f N o).length ≤ N
  | 0, _ => Nat.le_refl _
  | N + 1, none => by rw [goL_none]; exact Nat.zero_le _
  | N + 1, some x => Nat.succ_le_succ (goL_len f N (f x))
end G
/-! a halt between two statements -/
open PySem PySem.Spec PyProof.Rows L2 TL
namespace G
def Hold (p : Prop) : Prop := p
theorem hold {p : Prop} (h : p) : Hold p := h
section
variable {K : PySem.W.Frag} {env : G.Env} {cs : List Cell} {t u : TS} {k : AE}
theorem ws_stop (h : G.wpS K t env cs { k with nx := fun e c => Hold (G.wpS K u e c k) }) : G.wpS K (tSeq t u) env cs k := ws_seq h
end
end G
/-! how long a forest's text is -/
open PySem PySem.Spec PyProof.Rows L2 TL
namespace G
theorem sh_opt {L : List Str} {o : Option Str} (h : ∀ z, z ∈ L → Sh 122 (.str z)) (ho : ∀ z, o = some z → z ∈ L) : Sh 122 (optD o) := by
  cases o with
  | none => exact sh_none.mono (Nat.le_of_ble_eq_true rfl)
  | some z => exact h z (ho z rfl)
end G
/-! settled ways stay -/
open PySem PySem.Spec PyProof.Rows L2 TL
namespace G
theorem goL_fuel {f : Str → Option Str} : ∀ (N M : Nat) (o : Option Str), iterO f N o = none → iterO f M o = none → goL f N o = goL f M o
  | N, M, none, _, _ => by rw [goL_none, goL_none]
  | 0, M, some x, h, _ => by cases h
  | N + 1, 0, some x, _, h => by cases h
  | N + 1, M + 1, some x, h1, h2 => by
    show x :: goL f N (f x) = x :: goL f M (f x)
    rw [goL_fuel N M (f x) h1 h2]
section
variable {ls qs : List Lr} {ms : List Mk}
theorem Ext.day (x : Ext ls qs) (hp : PRise ls) (hq : PRise qs) {n : Str} (hn : n ∈ ls.map (·.1)) : dayO qs n = dayO ls n := by
  have e : ∀ xs : List Lr, lkA (xs.map fun l => (l.1, l.2.1)) n = (xs.filter fun l => decide (l.1 = n)).head?.map fun l => l.2.1 := fun xs => find_map n xs
  unfold dayO daysL
  rw [e, e, ← x.stand hp hq, List.filter_filter]
  refine congrArg (fun z : List Lr => z.head?.map fun l => l.2.1) (List.filter_congr fun l _ => ?_)
  by_cases e : l.1 = n
  · rw [e]
    simp only [decide_true, Bool.true_and]
    exact (decide_eq_true hn).symm
  · rw [decide_eq_false e, Bool.false_and]
end
end G
/-! d.get(y) where y may be None -/
open PySem PySem.Spec PyProof.Rows L2 TL
namespace G
end G
/-! letters that name nobody, some split off: the forest of them, plainly -/
open PySem PySem.Spec PyProof.Rows L2 TL
namespace G
/-! ### who stands, places, ties -/
theorem stand_allU {ls : List Lr} (hs : SRise (ls.map (·.1))) : PRise ls ∧ standL ls = ls := by
  have hp : PRise ls := rise_of_lt.mp ((List.pairwise_map.mp hs).imp fun {a b} h => by
    unfold lrD
    rw [PySem.W.dataLt_tuple, PySem.W.dataLt_cons (by simp [PySem.W.alike]), if_neg]
    · exact h
    · rw [eqv_str, decide_eq_true_eq]
      intro e
      rw [e] at h
      exact str_irr h)
  refine ⟨hp, rise_same (stand_prise hp) hp fun l => ⟨fun h => stand_sub h, fun h => ?_⟩⟩
  rcases standA_all ls none l h with e | ⟨x, hx, e⟩
  · cases e
  · have hnd := SRise.nodup hs
    have := List.mem_map.mpr ⟨x, hx, e⟩
    have e2 : x = l := by
      have hx2 := stand_sub hx
      have q1 := lkA_of_mem (kv := ls.map fun l => (l.1, l)) (by rw [List.map_map]; exact hnd) (List.mem_map.mpr ⟨x, hx2, rfl⟩)
      have q2 := lkA_of_mem (kv := ls.map fun l => (l.1, l)) (by rw [List.map_map]; exact hnd) (List.mem_map.mpr ⟨l, h, rfl⟩)
      rw [e, q2] at q1
      exact (Option.some.inj q1).symm
    rw [← e2]
    exact hx
end G
/-! comprehensions that leave some out while the store changes -/
open PySem PySem.Spec PyProof.Rows L2 TL
namespace G
end G
/-! rings told piece by piece: held, lettered, or empty and told -/
open PySem PySem.Spec PyProof.Rows L2 TL
namespace G
structure PcK where
  nm : Str
  tl : Str
  kd : Nat
  day : Int
  fl : Bool
instance : Inhabited PcK := ⟨⟨Str.empty, Str.empty, 0, 0, false⟩⟩
def ltP (p : PcK) (e : Str) : List Lr := if p.kd = 0 then (if p.fl then [(p.nm, 0, Str.empty, [])] else []) else if p.kd = 1 then [(p.nm, p.day, Str.empty, [e])] else [(p.tl, p.day, Str.empty, [e, p.nm])]
def mkP (p : PcK) (e : Str) : List Mk := if p.kd = 0 then [(p.nm, some e)] else []
def elP (r : List PcK) (i : Nat) : Str := (r.getD ((i + 1) % r.length) default).nm
def nmR (r : List PcK) : List Str := r.map (·.nm)
structure Cyc (rs : List (List PcK)) (ls : List Lr) (ms : List Mk) : Prop where
  pr : PRise ls
  nl : (ls.map (·.1)).Nodup
  nk : (ms.map (·.1)).Nodup
  n1 : ∀ p q, p ∈ rs.flatten → q ∈ rs.flatten → p.nm = q.nm → p = q
  n2 : ∀ p q, p ∈ rs.flatten → q ∈ rs.flatten → p.tl = q.tl → p = q
  n3 : ∀ p q, p ∈ rs.flatten → q ∈ rs.flatten → p.nm ≠ q.tl
  nd : ∀ r, r ∈ rs → (nmR r).Nodup
  dj : rs.Pairwise fun r s => ∀ p, p ∈ r → p ∉ s
  two : ∀ r, r ∈ rs → 2 ≤ r.length
  fr : ∀ r, r ∈ rs → ∃ p, p ∈ r ∧ p.kd ≠ 0
  hl : ∀ l, l ∈ ls ↔ ∃ r i p, r ∈ rs ∧ r[i]? = some p ∧ l ∈ ltP p (elP r i)
  hm : ∀ m, m ∈ ms ↔ ∃ r i p, r ∈ rs ∧ r[i]? = some p ∧ m ∈ mkP p (elP r i)
theorem srise_of {ls : List Lr} (hp : PRise ls) (hn : (ls.map (·.1)).Nodup) : SRise (ls.map (·.1)) := by
  refine List.pairwise_map.mpr ?_
  have h1 := List.pairwise_map.mp (List.nodup_iff_pairwise_ne.mp hn)
  have h2 := rise_of_lt.mpr hp
  exact (h1.and h2).imp fun {a b} h => (lr_lt h.2).resolve_left h.1
theorem pc_in {rs : List (List PcK)} {r : List PcK} {i : Nat} {p : PcK} (hr : r ∈ rs) (hi : r[i]? = some p) : p ∈ rs.flatten := List.mem_flatten.mpr ⟨r, hr, List.mem_of_getElem? hi⟩
section
variable {rs : List (List PcK)} {ls : List Lr} {ms : List Mk} (c : Cyc rs ls ms)
include c
theorem Cyc.st : standL ls = ls := (stand_allU (srise_of c.pr c.nl)).2
theorem Cyc.el {r : List PcK} {i : Nat} {p : PcK} (hr : r ∈ rs) (hi : r[i]? = some p) : (∃ q, q ∈ r ∧ q.nm = elP r i) ∧ elP r i ≠ p.nm := by
  have h2 := c.two r hr
  have hil := (List.getElem?_eq_some_iff.mp hi).1
  have hm : (i + 1) % r.length < r.length := Nat.mod_lt _ (by omega)
  have hg : r.getD ((i + 1) % r.length) default = r[(i + 1) % r.length] := by
    rw [List.getD_eq_getElem?_getD, List.getElem?_eq_getElem hm]
    rfl
  refine ⟨⟨_, List.getElem_mem hm, ?_⟩, fun e => ?_⟩
  · unfold elP
    rw [hg]
  · have h3 := c.nd r hr
    unfold elP at e
    rw [hg] at e
    have hp : r[i] = p := (List.getElem?_eq_some_iff.mp hi).2
    have hj : (nmR r)[(i + 1) % r.length]? = (nmR r)[i]? := by
      unfold nmR
      rw [List.getElem?_map, List.getElem?_map, List.getElem?_eq_getElem hm, hi]
      exact congrArg some e
    have := (List.getElem?_inj (l := nmR r) (by unfold nmR; rw [List.length_map]; exact hm) h3).mp hj
    rcases Nat.lt_or_ge (i + 1) r.length with q | q
    · rw [Nat.mod_eq_of_lt q] at this
      omega
    · rw [show i + 1 = r.length by omega, Nat.mod_self] at this
      omega
/-- what each letter is -/
theorem Cyc.lt {l : Lr} (h : l ∈ ls) : ∃ r i p, r ∈ rs ∧ r[i]? = some p ∧ ((p.kd = 0 ∧ l.1 = p.nm ∧ eldersL l.1 l.2.2.2 = [] ∧ l.2.1 = 0) ∨ (p.kd = 1 ∧ l.1 = p.nm ∧ eldersL l.1 l.2.2.2 = [elP r i] ∧ l.2.1 = p.day) ∨ (p.kd ≠ 0 ∧ p.kd ≠ 1 ∧ l.1 = p.tl ∧ eldersL l.1 l.2.2.2 = [elP r i, p.nm])) := by
  obtain ⟨r, i, p, hr, hi, hl⟩ := (c.hl l).mp h
  refine ⟨r, i, p, hr, hi, ?_⟩
  have hpin := pc_in hr hi
  obtain ⟨⟨q, hq, eq⟩, hne⟩ := c.el hr hi
  have hqin : q ∈ rs.flatten := List.mem_flatten.mpr ⟨r, hr, hq⟩
  unfold ltP at hl
  by_cases h0 : p.kd = 0
  · rw [if_pos h0] at hl
    by_cases hf : p.fl = true
    · rw [if_pos hf, List.mem_singleton] at hl
      subst hl
      exact .inl ⟨h0, rfl, rfl, rfl⟩
    · rw [if_neg hf] at hl
      cases hl
  · rw [if_neg h0] at hl
    by_cases h1 : p.kd = 1
    · rw [if_pos h1, List.mem_singleton] at hl
      subst hl
      refine .inr (.inl ⟨h1, rfl, ?_, rfl⟩)
      show eldersL p.nm [elP r i] = _
      rw [eldersL, if_pos ⟨hne, fun z => by cases z⟩]
      rfl
    · rw [if_neg h1, List.mem_singleton] at hl
      subst hl
      refine .inr (.inr ⟨h0, h1, rfl, ?_⟩)
      show eldersL p.tl [elP r i, p.nm] = _
      have t1 : elP r i ≠ p.tl := fun z => c.n3 q p hqin hpin (eq.trans z)
      have t2 : p.nm ≠ p.tl := c.n3 p p hpin hpin
      rw [eldersL, if_pos ⟨t1, fun z => hne (List.mem_singleton.mp z)⟩, eldersL, if_pos ⟨t2, fun z => by cases z⟩]
      rfl
theorem Cyc.mks {m : Mk} (h : m ∈ ms) : ∃ r i p, r ∈ rs ∧ r[i]? = some p ∧ p.kd = 0 ∧ m = (p.nm, some (elP r i)) := by
  obtain ⟨r, i, p, hr, hi, hl⟩ := (c.hm m).mp h
  unfold mkP at hl
  by_cases h0 : p.kd = 0
  · rw [if_pos h0, List.mem_singleton] at hl
    exact ⟨r, i, p, hr, hi, h0, hl⟩
  · rw [if_neg h0] at hl
    cases hl
theorem Cyc.hand {n : Str} {o : Option Str} (h : (n, o) ∈ ms) : lkA (handsL ms) n = some (o, .hand) := lkA_of_mem (by rw [handsL_keys]; exact c.nk) (List.mem_map.mpr ⟨_, h, rfl⟩)
theorem Cyc.noHand {p : PcK} (hp : p ∈ rs.flatten) (h0 : p.kd ≠ 0) : lkA (handsL ms) p.nm = none := by
  rw [lkA_none, handsL_keys]
  intro z
  obtain ⟨m, hm, e⟩ := List.mem_map.mp z
  obtain ⟨r, i, q, hr, hi, k0, rfl⟩ := c.mks hm
  have := c.n1 q p (pc_in hr hi) hp e
  exact h0 (by rw [← this]; exact k0)
theorem Cyc.noOwn {p : PcK} (hp : p ∈ rs.flatten) (h0 : p.kd ≠ 0) (h1 : p.kd ≠ 1) : lkA (ownsL ls) p.nm = none := by
  rw [lkA_none, ownsL_keys, c.st]
  intro z
  obtain ⟨l, hl, e⟩ := List.mem_map.mp z
  obtain ⟨r, i, q, hr, hi, ⟨k, e1, _⟩ | ⟨k, e1, _⟩ | ⟨_, _, e1, _⟩⟩ := c.lt hl
  · have := c.n1 q p (pc_in hr hi) hp (e1.symm.trans e)
    exact h0 (by rw [← this]; exact k)
  · have := c.n1 q p (pc_in hr hi) hp (e1.symm.trans e)
    exact h1 (by rw [← this]; exact k)
  · exact c.n3 p q hp (pc_in hr hi) (e.symm.trans e1)
theorem Cyc.own {l : Lr} (h : l ∈ ls) : lkA (ownsL ls) l.1 = some (ownC l) := owns_of c.pr (by rw [c.st]; exact h)
theorem Cyc.where_ {r s : List PcK} {i j : Nat} {p : PcK} (hr : r ∈ rs) (hi : r[i]? = some p) (hs : s ∈ rs) (hj : s[j]? = some p) : r = s ∧ i = j := by
  have hrs : r = s := by
    obtain ⟨a, ha⟩ := List.getElem?_of_mem hr
    obtain ⟨b, hb⟩ := List.getElem?_of_mem hs
    have hal := (List.getElem?_eq_some_iff.mp ha).1
    have hbl := (List.getElem?_eq_some_iff.mp hb).1
    have pw := List.pairwise_iff_getElem.mp c.dj
    rcases Nat.lt_trichotomy a b with q | q | q
    · refine absurd (List.mem_of_getElem? hj) ?_
      have := pw a b hal hbl q p
      rw [(List.getElem?_eq_some_iff.mp ha).2, (List.getElem?_eq_some_iff.mp hb).2] at this
      exact this (List.mem_of_getElem? hi)
    · subst q
      rw [ha] at hb
      exact Option.some.inj hb
    · refine absurd (List.mem_of_getElem? hi) ?_
      have := pw b a hbl hal q p
      rw [(List.getElem?_eq_some_iff.mp ha).2, (List.getElem?_eq_some_iff.mp hb).2] at this
      exact this (List.mem_of_getElem? hj)
  subst hrs
  refine ⟨rfl, ?_⟩
  have h3 := c.nd r hr
  refine (List.getElem?_inj (l := nmR r) (by unfold nmR; rw [List.length_map]; exact (List.getElem?_eq_some_iff.mp hi).1) h3).mp ?_
  unfold nmR
  rw [List.getElem?_map, List.getElem?_map, hi, hj]
theorem Cyc.up {r : List PcK} {i : Nat} {p : PcK} (hr : r ∈ rs) (hi : r[i]? = some p) : upC ls ms p.nm = some (elP r i) := by
  have hpin := pc_in hr hi
  unfold upC chs chsO
  by_cases h0 : p.kd = 0
  · rw [c.hand ((c.hm _).mpr ⟨r, i, p, hr, hi, by unfold mkP; rw [if_pos h0]; exact List.mem_singleton.mpr rfl⟩)]
    rfl
  · rw [c.noHand hpin h0]
    by_cases h1 : p.kd = 1
    · have hl : ((p.nm, p.day, Str.empty, [elP r i]) : Lr) ∈ ls := (c.hl _).mpr ⟨r, i, p, hr, hi, by unfold ltP; rw [if_neg h0, if_pos h1]; exact List.mem_singleton.mpr rfl⟩
      have ho := c.own hl
      have he : eldersL p.nm [elP r i] = [elP r i] := by
        rw [eldersL, if_pos ⟨(c.el hr hi).2, fun z => by cases z⟩]
        rfl
      rw [show lkA (ownsL ls) p.nm = _ from ho]
      unfold ownC
      show (match (eldersL p.nm [elP r i]).getLast? with | none => firstC | some e => (some e, Rsn.own)).1 = _
      rw [he]
      rfl
    · rw [c.noOwn hpin h0 h1]
      have hl : ((p.tl, p.day, Str.empty, [elP r i, p.nm]) : Lr) ∈ ls := (c.hl _).mpr ⟨r, i, p, hr, hi, by unfold ltP; rw [if_neg h0, if_neg h1]; exact List.mem_singleton.mpr rfl⟩
      have key : ∀ l k, l ∈ ls → clmOf p.nm l = some k → k.2.2.2 = elP r i := fun l k hl hk => by
        unfold clmOf at hk
        obtain ⟨s, j, q, hs, hj, ⟨_, _, e2, _⟩ | ⟨_, _, e2, _⟩ | ⟨_, _, e1, e2⟩⟩ := c.lt hl
        · rw [e2] at hk
          cases hk
        · rw [e2] at hk
          cases hk
        · rw [e2] at hk
          split at hk
          · rename_i hin
            have hin2 : p.nm ∈ [q.nm] := hin
            have e := c.n1 p q hpin (pc_in hs hj) (List.mem_singleton.mp hin2)
            subst e
            obtain ⟨rfl, rfl⟩ := c.where_ hr hi hs hj
            cases hk
            have hne : ¬ elP r i = p.nm := (c.el hr hi).2
            have hix : [elP r i, p.nm].idxOf p.nm = 1 := by
              rw [List.idxOf_cons, show (elP r i == p.nm) = false by simpa using hne]
              simp
            show [elP r i, p.nm].getD ([elP r i, p.nm].idxOf p.nm - 1) default = _
            rw [hix]
            rfl
          · cases hk
      have hsome : leastC ls p.nm ≠ none := by
        unfold leastC
        rw [c.st]
        have hin : ∃ k, k ∈ ls.filterMap (clmOf p.nm) := by
          have he : eldersL p.tl [elP r i, p.nm] = [elP r i, p.nm] := by
            obtain ⟨s, j, q, hs, hj, ⟨_, e1, _, _⟩ | ⟨_, e1, _, _⟩ | ⟨_, _, e1, e2⟩⟩ := c.lt hl
            · exact absurd e1.symm (c.n3 q p (pc_in hs hj) hpin)
            · exact absurd e1.symm (c.n3 q p (pc_in hs hj) hpin)
            · have e := c.n2 p q hpin (pc_in hs hj) e1
              subst e
              obtain ⟨rfl, rfl⟩ := c.where_ hr hi hs hj
              exact e2
          refine ⟨(p.day, p.tl, (eldersL p.tl [elP r i, p.nm]).idxOf p.nm, (eldersL p.tl [elP r i, p.nm]).getD ((eldersL p.tl [elP r i, p.nm]).idxOf p.nm - 1) default), List.mem_filterMap.mpr ⟨_, hl, ?_⟩⟩
          unfold clmOf
          refine if_pos ?_
          show p.nm ∈ List.drop 1 (eldersL p.tl [elP r i, p.nm])
          rw [he]
          exact List.mem_singleton.mpr rfl
        rw [foldl_minO_nil]
        obtain ⟨k, hk⟩ := hin
        cases q : ls.filterMap (clmOf p.nm) with
        | nil => rw [q] at hk; cases hk
        | cons a b => exact fun z => by cases z
      cases q : leastC ls p.nm with
      | none => exact absurd q hsome
      | some k =>
        have hk : k.2.2.2 = elP r i := by
          unfold leastC at q
          rw [c.st] at q
          rcases least_in _ _ q with h | h
          · obtain ⟨l, hl, e⟩ := List.mem_filterMap.mp h
            exact key l k hl e
          · cases h
        show some k.2.2.2 = _
        rw [hk]
theorem Cyc.ring {r : List PcK} (hr : r ∈ rs) : IsRing (upC ls ms) (nmR r) := by
  have h2 := c.two r hr
  refine ⟨fun z => ?_, c.nd r hr, fun i x hx => ?_⟩
  · have := congrArg List.length z
    unfold nmR at this
    rw [List.length_map] at this
    simp at this
    rw [this] at h2
    simp at h2
  · obtain ⟨p, hp, rfl⟩ := Option.map_eq_some_iff.mp (by unfold nmR at hx; rw [List.getElem?_map] at hx; exact hx)
    have hil := (List.getElem?_eq_some_iff.mp hp).1
    rw [c.up hr hp]
    unfold elP
    have hh : (nmR r).head? = some (r.getD 0 default).nm := by
      cases r with
      | nil => simp at h2
      | cons a b => rfl
    rw [hh]
    show _ = (nmR r ++ [_])[i + 1]?
    rcases Nat.lt_or_ge (i + 1) r.length with q | q
    · rw [List.getElem?_append_left (by unfold nmR; rw [List.length_map]; exact q), Nat.mod_eq_of_lt q]
      unfold nmR
      rw [List.getElem?_map, List.getD_eq_getElem?_getD, List.getElem?_eq_getElem q]
      rfl
    · have e : i + 1 = r.length := by omega
      rw [e, Nat.mod_self, List.getElem?_append_right (by unfold nmR; rw [List.length_map]; exact Nat.le_refl _)]
      unfold nmR
      rw [List.length_map, Nat.sub_self]
      rfl
theorem Cyc.held {p : PcK} (hp : p ∈ rs.flatten) : heldB ms p.nm = decide (p.kd = 0) := by
  unfold heldB
  rw [lkA_some, decide_eq_decide]
  constructor
  · intro z
    obtain ⟨m, hm, e⟩ := List.mem_map.mp z
    obtain ⟨r, i, q, hr, hi, k0, rfl⟩ := c.mks hm
    rw [← c.n1 q p (pc_in hr hi) hp e]
    exact k0
  · intro h0
    obtain ⟨r, hr, hpr⟩ := List.mem_flatten.mp hp
    obtain ⟨i, hi⟩ := List.getElem?_of_mem hpr
    exact List.mem_map.mpr ⟨_, (c.hm _).mpr ⟨r, i, p, hr, hi, by unfold mkP; rw [if_pos h0]; exact List.mem_singleton.mpr rfl⟩, rfl⟩
theorem Cyc.day {p : PcK} (hp : p ∈ rs.flatten) (h0 : p.kd ≠ 0) : dayO ls p.nm = if p.kd = 1 then some p.day else none := by
  obtain ⟨r, hr, hpr⟩ := List.mem_flatten.mp hp
  obtain ⟨i, hi⟩ := List.getElem?_of_mem hpr
  unfold dayO daysL
  rw [c.st]
  by_cases h1 : p.kd = 1
  · rw [if_pos h1]
    have hl : ((p.nm, p.day, Str.empty, [elP r i]) : Lr) ∈ ls := (c.hl _).mpr ⟨r, i, p, hr, hi, by unfold ltP; rw [if_neg h0, if_pos h1]; exact List.mem_singleton.mpr rfl⟩
    exact lkA_of_mem (by rw [List.map_map]; exact c.nl) (List.mem_map.mpr ⟨_, hl, rfl⟩)
  · rw [if_neg h1, lkA_none, List.map_map]
    have := lkA_none.mp (c.noOwn hp h0 h1)
    rw [ownsL_keys, c.st] at this
    exact this
omit c
/-! ### the cut of each ring, plainly -/
def strLt (a b : Str) : Bool := PySem.W.dataLt (.str a) (.str b)
def emptyR (r : List PcK) : List Str := (r.filter fun p => !decide (p.kd = 0) && !decide (p.kd = 1)).map (·.nm)
def lettR (r : List PcK) : List (Int × Str) := (r.filter fun p => decide (p.kd = 1)).map fun p => (p.day, p.nm)
def fsR (r : List PcK) : Str := match emptyR r with
  | e :: es => minA strLt e es
  | [] => match lettR r with
    | x :: xs => (minA dnLt x xs).2
    | [] => Str.empty
theorem minA_le {α : Type} (f : α → D) (lt : α → α → Bool) (h : ∀ a b, PySem.W.dataLt (f a) (f b) = lt a b) (x : α) (xs : List α) : ∀ y, y ∈ x :: xs → PySem.W.dataLt (f y) (f (minA lt x xs)) = false := fun y hy => by
  have h2 := minD_le (f x) (xs.map f) (f y) (by
    rw [← List.map_cons (f := f)]
    exact List.mem_map.mpr ⟨y, hy, rfl⟩)
  rw [minD_mapA f lt h] at h2
  exact h2
include c
theorem Cyc.cut {r : List PcK} (hr : r ∈ rs) : Cut (dayO ls) (heldB ms) (nmR r) (fsR r) := by
  have hin : ∀ p, p ∈ r → p ∈ rs.flatten := fun p hp => List.mem_flatten.mpr ⟨r, hr, hp⟩
  have hfree : ∀ x, x ∈ (nmR r).filter (fun n => !heldB ms n) ↔ ∃ p, p ∈ r ∧ p.nm = x ∧ p.kd ≠ 0 := fun x => by
    rw [List.mem_filter]
    constructor
    · rintro ⟨h1, h2⟩
      obtain ⟨p, hp, rfl⟩ := List.mem_map.mp h1
      refine ⟨p, hp, rfl, fun z => ?_⟩
      rw [c.held (hin p hp), decide_eq_true z] at h2
      cases h2
    · rintro ⟨p, hp, rfl, h0⟩
      refine ⟨List.mem_map.mpr ⟨p, hp, rfl⟩, ?_⟩
      rw [c.held (hin p hp), decide_eq_false h0]
      rfl
  have hempty : ∀ x, x ∈ ((nmR r).filter fun n => !heldB ms n).filter (fun n => !(lkA (daysL ls) n).isSome) ↔ x ∈ emptyR r := fun x => by
    rw [List.mem_filter, hfree]
    unfold emptyR
    rw [List.mem_map]
    constructor
    · rintro ⟨⟨p, hp, rfl, h0⟩, h2⟩
      refine ⟨p, List.mem_filter.mpr ⟨hp, ?_⟩, rfl⟩
      have hd := c.day (hin p hp) h0
      unfold dayO at hd
      rw [hd] at h2
      by_cases h1 : p.kd = 1
      · rw [if_pos h1] at h2
        cases h2
      · simp [h0, h1]
    · rintro ⟨p, hp, rfl⟩
      obtain ⟨hp, h2⟩ := List.mem_filter.mp hp
      have h0 : p.kd ≠ 0 := by
        intro z
        simp [z] at h2
      have h1 : p.kd ≠ 1 := by
        intro z
        simp [z] at h2
      refine ⟨⟨p, hp, rfl, h0⟩, ?_⟩
      have hd := c.day (hin p hp) h0
      unfold dayO at hd
      rw [hd, if_neg h1]
      rfl
  cases e : emptyR r with
  | cons a t =>
    have hf : fsR r = minA strLt a t := by
      unfold fsR
      rw [e]
    rw [hf]
    have hm := minA_mem strLt t a
    rw [← e] at hm
    refine cut_empty ((hempty _).mpr hm) fun d hd => ?_
    have := (hempty d).mp hd
    rw [e] at this
    exact minA_le PyData.str strLt (fun _ _ => rfl) a t d this
  | nil =>
    have hno : ((nmR r).filter fun n => !heldB ms n).filter (fun n => !(lkA (daysL ls) n).isSome) = [] := by
      refine List.eq_nil_iff_forall_not_mem.mpr fun x hx => ?_
      have := (hempty x).mp hx
      rw [e] at this
      cases this
    have hk1 : ∀ p, p ∈ r → p.kd ≠ 0 → p.kd = 1 := fun p hp h0 => Classical.byContradiction fun h1 => by
      have : p.nm ∈ emptyR r := List.mem_map.mpr ⟨p, List.mem_filter.mpr ⟨hp, by simp [h0, h1]⟩, rfl⟩
      rw [e] at this
      cases this
    obtain ⟨p0, hp0, k0⟩ := c.fr r hr
    have hl0 : (p0.day, p0.nm) ∈ lettR r := List.mem_map.mpr ⟨p0, List.mem_filter.mpr ⟨hp0, decide_eq_true (hk1 p0 hp0 k0)⟩, rfl⟩
    cases el : lettR r with
    | nil =>
      rw [el] at hl0
      cases hl0
    | cons x xs =>
      have hf : fsR r = (minA dnLt x xs).2 := by
        unfold fsR
        rw [e, el]
      have hm := minA_mem dnLt xs x
      rw [← el] at hm
      obtain ⟨p, hp, ep⟩ := List.mem_map.mp hm
      obtain ⟨hp, hk⟩ := List.mem_filter.mp hp
      have hk := of_decide_eq_true hk
      have h0 : p.kd ≠ 0 := by omega
      have e1 : (minA dnLt x xs).2 = p.nm := by rw [← ep]
      have hd := c.day (hin p hp) h0
      unfold dayO at hd
      rw [if_pos hk] at hd
      rw [hf, e1]
      refine cut_lettered hno ((hfree _).mpr ⟨p, hp, rfl, h0⟩) hd fun d y hd2 hy => ?_
      obtain ⟨q, hq, rfl, q0⟩ := (hfree d).mp hd2
      have hdq := c.day (hin q hq) q0
      unfold dayO at hdq
      rw [if_pos (hk1 q hq q0), hy] at hdq
      cases hdq
      have hql : (q.day, q.nm) ∈ x :: xs := by
        rw [← el]
        exact List.mem_map.mpr ⟨q, List.mem_filter.mpr ⟨hq, decide_eq_true (hk1 q hq q0)⟩, rfl⟩
      have := minA_le dnD dnLt (fun _ _ => rfl) x xs _ hql
      rw [← ep] at this
      exact this
end
/-! ### a ring's ties -/
end G
/-! rings told piece by piece: the letters and marks in a row; many names set at once -/
open PySem PySem.Spec PyProof.Rows L2 TL
namespace G
/-! ### piece by piece, by the names in a row -/
end G
/-! sorted(xs, key=f), f a def of the program -/
open PySem PySem.Spec PyProof.Rows L2 TL
namespace G
/-! ### by values -/
end G
/-! drawings read: lstrip of signs, odd numbers, statements never reached -/
open PySem PySem.Spec PyProof.Rows L2 TL
namespace G
/-! ### rows of a drawing -/
end G
/-! a, b, c = x, y, z -/
open PySem PySem.Spec PyProof.Rows L2 TL
namespace G
end G
/-! dicts whose keys are tuples of numbers, texts, None and such tuples -/
namespace G
open PySem PySem.Spec PyProof.Rows L2 TL
mutual
def kyN : D → NestedKey
  | .none => .none
  | .int i => .num i
  | .str x => .text x
  | .tuple ds => .tup (kyNs ds)
  | .bool _ => .none
  | .list _ => .none
  | .dict _ => .none
def kyNs : List D → List NestedKey
  | [] => []
  | d :: r => kyN d :: kyNs r
end
mutual
def kyP : D → Bool
  | .none => true
  | .int _ => true
  | .str _ => true
  | .tuple ds => kyPs ds
  | .bool _ => false
  | .list _ => false
  | .dict _ => false
def kyPs : List D → Bool
  | [] => true
  | d :: r => kyP d && kyPs r
end
mutual
theorem kyN_inj : ∀ (a b : D), kyP a = true → kyP b = true → kyN a = kyN b → a = b
  | .none, b, _, hb, e => by
    cases b with
    | none => rfl
    | int x => simp only [kyN] at e; exact nomatch e
    | str x => simp only [kyN] at e; exact nomatch e
    | tuple x => simp only [kyN] at e; exact nomatch e
    | bool x => exact nomatch hb
    | list x => exact nomatch hb
    | dict x => exact nomatch hb
  | .int i, b, _, hb, e => by
    cases b with
    | int j =>
      simp only [kyN] at e
      injection e with e
      rw [e]
    | none => simp only [kyN] at e; exact nomatch e
    | str x => simp only [kyN] at e; exact nomatch e
    | tuple x => simp only [kyN] at e; exact nomatch e
    | bool x => exact nomatch hb
    | list x => exact nomatch hb
    | dict x => exact nomatch hb
  | .str i, b, _, hb, e => by
    cases b with
    | str j =>
      simp only [kyN] at e
      injection e with e
      rw [e]
    | none => simp only [kyN] at e; exact nomatch e
    | int x => simp only [kyN] at e; exact nomatch e
    | tuple x => simp only [kyN] at e; exact nomatch e
    | bool x => exact nomatch hb
    | list x => exact nomatch hb
    | dict x => exact nomatch hb
  | .tuple ds, b, ha, hb, e => by
    cases b with
    | tuple es =>
      simp only [kyN] at e
      injection e with e
      rw [kyNs_inj ds es (by simpa [kyP] using ha) (by simpa [kyP] using hb) e]
    | none => simp only [kyN] at e; exact nomatch e
    | int x => simp only [kyN] at e; exact nomatch e
    | str x => simp only [kyN] at e; exact nomatch e
    | bool x => exact nomatch hb
    | list x => exact nomatch hb
    | dict x => exact nomatch hb
  | .bool _, _, ha, _, _ => nomatch ha
  | .list _, _, ha, _, _ => nomatch ha
  | .dict _, _, ha, _, _ => nomatch ha
theorem kyNs_inj : ∀ (a b : List D), kyPs a = true → kyPs b = true → kyNs a = kyNs b → a = b
  | [], [], _, _, _ => rfl
  | [], _ :: _, _, _, e => by simp [kyNs] at e
  | _ :: _, [], _, _, e => by simp [kyNs] at e
  | a :: as, b :: bs, ha, hb, e => by
    have ha' : kyP a = true ∧ kyPs as = true := by simpa [kyPs] using ha
    have hb' : kyP b = true ∧ kyPs bs = true := by simpa [kyPs] using hb
    simp only [kyNs] at e
    injection e with e1 e2
    rw [kyN_inj a b ha'.1 hb'.1 e1, kyNs_inj as bs ha'.2 hb'.2 e2]
end
/-- a key: a tuple, of depth eight at most -/
def KyOk (d : D) : Prop := (∃ ds, d = .tuple ds) ∧ kyP d = true ∧ (kyN d).depth ≤ 8
section
variable {X : Cx} {pins : List (Addr × Obj)} {σ : L2.St} {H : Hp} {s : Shared}
mutual
theorem rp_nested (I : Inv X pins σ H s) : ∀ (d : D) (v : V) (u : Value), kyP d = true → Rp X.K H d v → RelV v u → NestedIs s.heap (kyN d) u
  | .none, _, _, _, h, r => by
    cases h
    cases r
    exact .none
  | .int i, _, _, _, h, r => by
    cases h
    obtain ⟨t, rfl⟩ := r
    exact .int i t
  | .str x, _, _, _, h, r => by
    cases h
    obtain ⟨t, rfl⟩ := r
    exact .text x t
  | .tuple ds, _, _, hp, h, r => by
    obtain ⟨a, vs, rfl, hs, ha⟩ := h
    cases r
    obtain ⟨its, rv, ⟨o, ho, hc, n, hd⟩, _⟩ := I.tuple hs
    rw [kyN]
    exact .tup ho hc hd (by simpa using rps_nested I ds vs its (by simpa [kyP] using hp) ha rv)
  | .bool _, _, _, hp, _, _ => nomatch hp
  | .list _, _, _, hp, _, _ => nomatch hp
  | .dict _, _, _, hp, _, _ => nomatch hp
theorem rps_nested (I : Inv X pins σ H s) : ∀ (ds : List D) (vs : List V) (us : List Value), kyPs ds = true → RpL X.K H ds vs → Vals vs us → NestedAll s.heap (kyNs ds) us
  | [], _, _, _, h, r => by
    cases h
    cases r
    exact .nil
  | d :: ds, _, _, hp, h, r => by
    obtain ⟨v, vs, rfl, h1, h2⟩ := h
    have hp' : kyP d = true ∧ kyPs ds = true := by simpa [kyPs] using hp
    cases r with
    | cons r1 r2 =>
      rw [kyNs]
      exact .cons (rp_nested I d _ _ hp'.1 h1 r1) (rps_nested I ds _ _ hp'.2 h2 r2)
end
end
/-! ### the object -/
abbrev KX := List ((D × V) × V)
def kdE (w : World) (q : (D × V) × V) (e : DictEntry) : Prop := RelV q.1.2 e.key ∧ e.hash = (kyN q.1.1).hash w ∧ RelV q.2 e.val
def kdO (w : World) (a : Addr) (xs : KX) : HO := .ext fun h => xs.length ≤ sizeLine ∧ (a == sysModules) = false ∧
  ∃ (o : Obj) (es : Array DictEntry) (ep : Nat), h.get? a = some o ∧ o.ExactDict ∧ o.data = .dict es ep ∧ Paired (kdE w) xs es.toList ∧ (xs.map fun q => kyN q.1.1).Nodup
theorem kdO_ok {P : Program} {w w' : World} {H : Hp} {h : Heap} {a : Addr} {xs : KX} {o : Obj} {es : Array DictEntry} {ep : Nat} (z : xs.length ≤ sizeLine) (hd : (a == sysModules) = false) (h1 : h.get? a = some o) (h2 : o.ExactDict) (h3 : o.data = .dict es ep) (h4 : Paired (kdE w) xs es.toList) (h5 : (xs.map fun q => kyN q.1.1).Nodup) :
    ObjOk P w' H h a (kdO w a xs) :=
  ⟨⟨z, hd, o, es, ep, h1, h2, h3, h4, h5⟩, ⟨o, h1⟩, fun _ _ ⟨z, hd, o, es, ep, h1, h2, h3, h4, h5⟩ k => ⟨z, hd, o, es, ep, k o h1, h2, h3, h4, h5⟩⟩
def kdY (q : (D × V) × V) (y : NestedKey × Addr × Value) : Prop := y.1 = kyN q.1.1 ∧ q.1.2 = .ref y.2.1 ∧ RelV q.2 y.2.2
def KdKeys (K : PySem.W.Frag) (H : Hp) (xs : KX) : Prop := ∀ q, q ∈ xs → KyOk q.1.1 ∧ Rp K H q.1.1 q.1.2
def valY (xs : KX) (d : D) : Option V := (xs.find? fun q => decide (kyN q.1.1 = kyN d)).map (·.2)
def putY (xs : KX) (d : D) (y v : V) : KX := if (valY xs d).isSome then xs.map (fun q => if kyN q.1.1 = kyN d then (q.1, v) else q) else xs ++ [((d, y), v)]
theorem putY_len (xs : KX) (d : D) (y v : V) : (putY xs d y v).length ≤ xs.length + 1 := by
  unfold putY
  split
  · rw [List.length_map]
    omega
  · rw [List.length_append]
    exact Nat.le_refl _
theorem kdY_val {d : D} : ∀ {xs : KX} {ys : List (NestedKey × Addr × Value)}, Paired kdY xs ys → RelO (valY xs d) ((atKey ys (kyN d)).map (·.2))
  | _, _, .nil => True.intro
  | q :: xs, y :: ys, .cons r t => by
    obtain ⟨h1, h2, h3⟩ := r
    by_cases e : kyN q.1.1 = kyN d
    · have a : valY (q :: xs) d = some q.2 := by simp [valY, List.find?_cons, e]
      have b : atKey (y :: ys) (kyN d) = some y.2 := by simp [atKey, List.find?_cons, h1.trans e]
      rw [a, b]
      exact h3
    · have a : valY (q :: xs) d = valY xs d := by simp [valY, List.find?_cons, e]
      have b : atKey (y :: ys) (kyN d) = atKey ys (kyN d) := by
        have : ¬ y.1 = kyN d := fun z => e (h1.symm.trans z)
        simp [atKey, List.find?_cons, this]
      rw [a, b]
      exact kdY_val t
theorem kdY_keys : ∀ {xs : KX} {ys : List (NestedKey × Addr × Value)}, Paired kdY xs ys → ys.map (·.1) = xs.map fun q => kyN q.1.1
  | _, _, .nil => rfl
  | _, _, .cons r t => by rw [List.map_cons, List.map_cons, kdY_keys t, r.1]
theorem kdY_ents {P : Program} {w : World} : ∀ {xs : KX} {ys : List (NestedKey × Addr × Value)}, Paired kdY xs ys → Paired (kdE w) xs (ys.map (entryOfKey (nestedKind P w)))
  | _, _, .nil => .nil
  | _, _, .cons r t => .cons ⟨by rw [r.2.1]; rfl, by rw [← r.1]; rfl, r.2.2⟩ (kdY_ents t)
theorem kdY_rep {d : D} {v : V} {u : Value} (rv : RelV v u) : ∀ {xs : KX} {ys : List (NestedKey × Addr × Value)}, Paired kdY xs ys → Paired kdY (xs.map fun q => if kyN q.1.1 = kyN d then (q.1, v) else q) (ys.map (putAt (kyN d) u))
  | _, _, .nil => .nil
  | q :: xs, y :: ys, .cons r t => by
    obtain ⟨h1, h2, h3⟩ := r
    rw [List.map_cons, List.map_cons]
    refine .cons ?_ (kdY_rep rv t)
    unfold putAt
    by_cases c : kyN q.1.1 = kyN d
    · rw [if_pos c, if_pos (h1.trans c)]
      exact ⟨h1, h2, rv⟩
    · rw [if_neg c, if_neg (fun z => c (h1.symm.trans z))]
      exact ⟨h1, h2, h3⟩
theorem kdY_put {d : D} {b : Addr} {v : V} {u : Value} (rv : RelV v u) {xs : KX} {ys : List (NestedKey × Addr × Value)} (h : Paired kdY xs ys) : Paired kdY (putY xs d (.ref b) v) (storedH ys (kyN d) b u) := by
  have e := (kdY_val (d := d) h).isSome_eq
  rw [Option.isSome_map] at e
  unfold putY storedH
  rw [e]
  split
  · exact kdY_rep rv h
  · exact Paired.app' h (.cons ⟨rfl, rfl, rv⟩ .nil)
section
variable {X : Cx} {pins : List (Addr × Obj)} {σ : L2.St} {H : Hp} {s : Shared} {a : Addr} {xs : KX}
theorem kd_ys (I : Inv X pins σ H s) : ∀ {xs : KX} {es : List DictEntry}, Paired (kdE X.w) xs es → KdKeys X.K H xs →
    ∃ ys : List (NestedKey × Addr × Value), es = ys.map (entryOfKey (nestedKind X.prog X.w)) ∧ Paired kdY xs ys ∧ ∀ y, y ∈ ys → (nestedKind X.prog X.w).is s.heap y.1 y.2.1
  | _, _, .nil, _ => ⟨[], rfl, .nil, fun _ h => nomatch h⟩
  | q :: xs, e :: es, .cons r t, hk => by
    obtain ⟨ys, h1, h2, h3⟩ := kd_ys I t fun q hq => hk q (List.mem_cons_of_mem _ hq)
    obtain ⟨⟨⟨ds, ed⟩, hp, hd⟩, hr⟩ := hk q (List.mem_cons_self ..)
    obtain ⟨r1, r2, r3⟩ := r
    have hb : ∃ b, q.1.2 = .ref b := by
      rw [ed] at hr
      obtain ⟨b, vs, e1, _⟩ := hr
      exact ⟨b, e1⟩
    obtain ⟨b, hb⟩ := hb
    have ek : e.key = .ref b := by
      rw [hb] at r1
      exact r1
    refine ⟨(kyN q.1.1, b, e.val) :: ys, ?_, .cons ⟨rfl, hb, r3⟩ h2, fun y hy => ?_⟩
    · rw [List.map_cons, ← h1]
      congr 1
      obtain ⟨eh, eky, ev⟩ := e
      simp only at r2 ek
      subst r2 ek
      rfl
    · rcases List.mem_cons.mp hy with e0 | hy
      · rw [e0]
        refine ⟨rp_nested I _ _ _ hp hr ?_, hd⟩
        rw [hb]
        rfl
      · exact h3 y hy
theorem kd_at (I : Inv X pins σ H s) (e : H a = some (kdO X.w a xs)) (hk : KdKeys X.K H xs) : xs.length ≤ sizeLine ∧ (a == sysModules) = false ∧
    ∃ ys : List (NestedKey × Addr × Value), s.heap.DictOfH (nestedKind X.prog X.w) a ys ∧ Paired kdY xs ys := by
  obtain ⟨⟨z, hd, o, es, ep, h1, h2, h3, h4, h5⟩, _, _⟩ := (show ObjOk X.prog X.w H s.heap a (kdO X.w a xs) from I.hok a _ e)
  obtain ⟨ys, g1, g2, g3⟩ := kd_ys I h4 hk
  exact ⟨z, hd, ys, ⟨o, es, ep, h1, h2, h3, g1, g3, by rw [kdY_keys g2]; exact h5⟩, g2⟩
theorem kd_of {P : Program} {w w' : World} {H : Hp} {h : Heap} {ys : List (NestedKey × Addr × Value)} (z : xs.length ≤ sizeLine) (hd : (a == sysModules) = false) (x : h.DictOfH (nestedKind P w) a ys) (g : Paired kdY xs ys) : ObjOk P w' H h a (kdO w a xs) := by
  obtain ⟨o, es, ep, h1, h2, h3, h4, _, h5⟩ := x
  exact kdO_ok z hd h1 h2 h3 (by rw [h4]; exact kdY_ents g) (by rw [← kdY_keys g]; exact h5)
theorem ky_is (I : Inv X pins σ H s) {d : D} {b : Addr} (hk : KyOk d) (hr : Rp X.K H d (.ref b)) : (nestedKind X.prog X.w).is s.heap (kyN d) b := ⟨rp_nested I _ _ _ hk.2.1 hr rfl, hk.2.2⟩
theorem ky_ref {K : PySem.W.Frag} {d : D} {y : V} (hk : KyOk d) (hr : Rp K H d y) : ∃ b, y = .ref b := by
  obtain ⟨⟨ds, rfl⟩, _⟩ := hk
  obtain ⟨b, vs, e1, _⟩ := hr
  exact ⟨b, e1⟩
end
/-! ### readings and rules -/
def tKNew (w : World) : TE := fun _ H Q => ∀ p, H p = none → Q (.ref p) (upd H p (kdO w p []))
def sKPut (K : PySem.W.Frag) (w : World) (td ty tv : TE) : TS := fun Z σ H => tv σ H fun v H1 => td σ H1 fun x H2 => ty σ H2 fun y H3 => ∃ (a : Addr) (xs : KX) (d : D), x = .ref a ∧ H3 a = some (kdO w a xs) ∧ KdKeys K H3 xs ∧ KyOk d ∧ Rp K H3 d y ∧ xs.length < sizeLine ∧
  Z.nx σ (upd H3 a (kdO w a (putY xs d y v)))
section
variable {X : Cx} {K : PySem.W.Frag} {w : World} {o i value : Expr} {pos pos' : Pos} {td ty tv : TE}
theorem pe_knew (hw : X.w = w) : PE X (.Dict [] [] pos) (tKNew w) := ⟨fun pins s σ H Q I h => by
  subst hw
  exact wpAny_Dict_empty ⟨.ref s.heap.objs.size, _, I.laid (a := s.heap.objs.size) (o := kdO X.w s.heap.objs.size []) (t' := s.toks) (fun _ _ q => Heap.get?_push_of_some _ q) (Nat.le_refl _)
    (kdO_ok (Nat.zero_le _) (beq_eq_false_iff_ne.mpr (Ne.symm (Nat.ne_of_lt I.big))) (Heap.get?_push_size _ rfl) ⟨rfl, rfl, rfl⟩ rfl .nil List.nodup_nil), rfl, h _ (I.hok.fresh (Nat.le_refl _))⟩⟩
theorem ps_kput (hK : X.K = K) (hw : X.w = w) (hu : X.A.units + 64 < cLine) (ho : PE X o td) (hi : PE X i ty) (hv : PE X value tv) (hs : swapsWith value (some (.Subscript o i pos')) pos.line X.env = pure false) :
    PS X (.Assign [.Subscript o i pos'] value pos) (sKPut K w td ty tv) := by
  subst hK hw
  refine ⟨fun pins s σ H D I h => ?_⟩
  refine wpAny_Assign_Subscript (thn (hv.run pins s σ H _ I h) fun r s1 ⟨v, H1, I1, rv, q1⟩ => thn (ho.run pins s1 σ H1 _ I1 q1) fun u s2 ⟨x, H2, I2, rx, q2⟩ => thn (hi.run pins s2 σ H2 _ I2 q2) fun iv s3 ⟨y, H3, I3, ry, a, xs, d, ex, ha, hks, hk, hr, hl, q3⟩ => ?_) hs
  subst ex
  obtain rfl : u = Value.ref a := rx
  obtain ⟨b, rfl⟩ := ky_ref hk hr
  obtain rfl : iv = Value.ref b := ry
  obtain ⟨z, hd, ys, hy, g⟩ := kd_at I3 ha hks
  have hz : ys.length ≤ sizeLine := by rw [← Paired.length g]; exact z
  refine wpAny_setItem_heap (hsz := hz) (show X.A.in1.units + 8 < cLine by show X.A.units + 1 + 8 < cLine; omega) (ky_is I3 hk hr) hy fun h' dd' hsb => ⟨σ, _, ?_, q3⟩
  obtain ⟨o', _, _, ho', _⟩ := id dd'
  exact d_write I3 (by rw [ha]; exact True.intro) hsb ⟨o', ho'⟩ (kd_of (by have := putY_len xs d (.ref b) v; omega) hd dd' (kdY_put rv g))
end
/-! ### by values -/
def kdX (w : World) (a : Addr) (ds : List D) (ws : List (V × V)) : HO := kdO w a ((ds.zip ws).map fun p => ((p.1, p.2.1), p.2.2))
abbrev KyD := List (D × Vl)
def kdC (w : World) (kv : KyD) : Cell := .dcx (kdX w) kv
def lkY (kv : KyD) (d : D) : Option Vl := (kv.find? fun q => decide (kyN q.1 = kyN d)).map (·.2)
def ptY (kv : KyD) (d : D) (x : Vl) : KyD := if (lkY kv d).isSome then kv.map (fun q => if kyN q.1 = kyN d then (q.1, x) else q) else kv ++ [(d, x)]
section
variable {K : PySem.W.Frag} {w : World} {env : G.Env} {cs : List Cell} {Φ : Vl → List Cell → Prop} {ty td tv : TE} {a : AE} {B H : Hp} {A : List Addr}
abbrev KdR (K : PySem.W.Frag) (B : Hp) (A : List Addr) : KyD → KX → Prop := Paired fun (p : D × Vl) (q : (D × V) × V) => q.1.1 = p.1 ∧ Rp K B p.1 q.1.2 ∧ RpV K B A p.2 q.2
theorem kd_zip : ∀ {kv : KyD} {ws : List (V × V)}, Paired (fun (p : D × Vl) (q : V × V) => Rp K B p.1 q.1 ∧ RpV K B A p.2 q.2) kv ws → KdR K B A kv (((kv.map (·.1)).zip ws).map fun p => ((p.1, p.2.1), p.2.2))
  | _, _, .nil => .nil
  | _, _, .cons r t => .cons ⟨rfl, r⟩ (kd_zip t)
theorem kd_unzip : ∀ {kv : KyD} {xs : KX}, KdR K B A kv xs → ∃ ws, xs = (((kv.map (·.1)).zip ws).map fun p => ((p.1, p.2.1), p.2.2)) ∧ Paired (fun (p : D × Vl) (q : V × V) => Rp K B p.1 q.1 ∧ RpV K B A p.2 q.2) kv ws
  | _, _, .nil => ⟨[], rfl, .nil⟩
  | p :: kv, q :: xs, .cons r t => by
    obtain ⟨ws, e, h⟩ := kd_unzip t
    refine ⟨(q.1.2, q.2) :: ws, ?_, .cons r.2 h⟩
    rw [List.map_cons, List.zip_cons_cons, List.map_cons, ← e, ← r.1]
theorem St.kdC {F : Hp} {σ : L2.St} {j : Nat} {kv : KyD} {v : V} (s : G.St K F B H A env cs σ) (hc : cs[j]? = some (kdC w kv)) (r : RpV K B A (.cel j) v) : ∃ b xs, A[j]? = some b ∧ v = .ref b ∧ H b = some (kdO w b xs) ∧ KdR K B A kv xs := by
  obtain ⟨b, hb, rfl⟩ := r
  obtain ⟨ws, h1, h2⟩ := s.ch j b _ hb hc
  exact ⟨b, _, hb, rfl, h1, kd_zip h2⟩
theorem KdR.keys {kv : KyD} {xs : KX} (e : Same B H) (h : KdR K B A kv xs) (hk : ∀ p, p ∈ kv → KyOk p.1) : KdKeys K H xs := by
  induction h with
  | nil => exact fun _ h => nomatch h
  | @cons p q kv xs r t ih =>
    intro z hz
    rcases List.mem_cons.mp hz with e0 | hz
    · rw [e0, r.1]
      exact ⟨hk p (List.mem_cons_self ..), Rp.mono e r.2.1⟩
    · exact ih (fun p hp => hk p (List.mem_cons_of_mem _ hp)) z hz
theorem KdR.get {d : D} : ∀ {kv : KyD} {xs : KX}, KdR K B A kv xs → (lkY kv d = none ∧ valY xs d = none) ∨ ∃ x v, lkY kv d = some x ∧ valY xs d = some v ∧ RpV K B A x v
  | _, _, .nil => .inl ⟨rfl, rfl⟩
  | p :: kv, q :: xs, .cons r t => by
    by_cases e : kyN p.1 = kyN d
    · exact .inr ⟨p.2, q.2, by simp [lkY, List.find?_cons, e], by simp [valY, List.find?_cons, r.1, e], r.2.2⟩
    · rw [show lkY (p :: kv) d = lkY kv d by simp [lkY, List.find?_cons, e], show valY (q :: xs) d = valY xs d by simp [valY, List.find?_cons, r.1, e]]
      exact KdR.get t
theorem KdR.rep {d : D} {x : Vl} {v : V} (hv : RpV K B A x v) : ∀ {kv : KyD} {xs : KX}, KdR K B A kv xs → KdR K B A (kv.map fun q => if kyN q.1 = kyN d then (q.1, x) else q) (xs.map fun q => if kyN q.1.1 = kyN d then (q.1, v) else q)
  | _, _, .nil => .nil
  | p :: kv, q :: xs, .cons r t => by
    rw [List.map_cons, List.map_cons]
    refine .cons ?_ (KdR.rep hv t)
    by_cases c : kyN p.1 = kyN d
    · rw [if_pos c, if_pos (by rw [r.1]; exact c)]
      exact ⟨r.1, r.2.1, hv⟩
    · rw [if_neg c, if_neg (by rw [r.1]; exact c)]
      exact r
theorem KdR.put {d : D} {x : Vl} {y v : V} (hy : Rp K B d y) (hv : RpV K B A x v) {kv : KyD} {xs : KX} (h : KdR K B A kv xs) : KdR K B A (ptY kv d x) (putY xs d y v) := by
  have e : (lkY kv d).isSome = (valY xs d).isSome := by
    rcases h.get (d := d) with ⟨h1, h2⟩ | ⟨x, v, h1, h2, _⟩ <;> rw [h1, h2] <;> rfl
  unfold ptY putY
  rw [e]
  split
  · exact KdR.rep hv h
  · exact Paired.app' h (.cons ⟨rfl, hy, hv⟩ .nil)
theorem we_knew (f : Φ (.cel cs.length) (cs ++ [kdC w []])) : wpE K (tKNew w) env cs Φ := fun F B H A σ s Q q p hp => by
  refine q _ _ _ B _ (A ++ [p]) f (Same.refl B) (Pre.app A [p]) (s.new hp ⟨[], upd_same, .nil⟩) ⟨p, ?_, rfl⟩
  rw [← s.la, List.getElem?_append_right (Nat.le_refl _), Nat.sub_self]
  rfl
theorem ws_kput (h : wpE K tv env cs fun v c1 => wpE K td env c1 fun x c2 => wpE K ty env c2 fun y c3 => ∃ (j : Nat) (kv : KyD) (d : D), x = .cel j ∧ y = .dat d ∧ c3[j]? = some (kdC w kv) ∧ (∀ p, p ∈ kv → KyOk p.1) ∧ KyOk d ∧ kv.length ≤ 1000000 ∧ a.nx env (c3.set j (kdC w (ptY kv d v)))) : wpS K (sKPut K w td ty tv) env cs a := fun F B H A σ s D q1 _ _ _ =>
  h F B H A σ s _ fun v c1 w1 B1 H1 A1 f e1 p1 s1 r1 => f F B1 H1 A1 σ s1 _ fun x c2 w2 B2 H2 A2 f2 e2 p2 s2 r2 => f2 F B2 H2 A2 σ s2 _ fun y c3 w3 B3 H3 A3 ⟨j, kv, d, ex, ey, hc, hks, hk, hl, g⟩ e3 p3 s3 r3 => by
    subst ex ey
    obtain ⟨b, xs, hb, rfl, hH, hR⟩ := s3.kdC hc (r2.mono e3 p3)
    have hv := r1.mono (e2.trans e3) (p2.trans p3)
    have hd : Rp K B3 d w3 := r3
    refine ⟨b, xs, d, rfl, hH, hR.keys s3.eb hks, hk, hd.mono s3.eb, by rw [← Paired.length hR]; exact Nat.lt_of_le_of_lt hl (by decide), ?_⟩
    obtain ⟨ws, ew, hw⟩ := kd_unzip (hR.put hd hv)
    exact q1 env _ σ B3 _ A3 g ((e1.trans e2).trans e3) ((p1.trans p2).trans p3) (s3.put hb ⟨ws, by rw [upd_same]; exact congrArg (fun z => some (kdO w b z)) ew, hw⟩)
end
/-! ### dicts of keys all True: the keys in the order in which they came -/
end G
/-! calls that are handed two cells; letters as keys -/
namespace G
open PySem PySem.Spec PyProof.Rows L2 TL
/-! ### letters as keys -/
theorem kyPs_strs : ∀ xs : List Str, kyPs (xs.map .str) = true
  | [] => rfl
  | x :: r => by
    rw [List.map_cons, kyPs, kyPs_strs r]
    rfl
theorem kd_strs : ∀ xs : List Str, NestedKey.depthAll (kyNs (xs.map .str)) = 0
  | [] => rfl
  | x :: r => by
    rw [List.map_cons, kyNs, NestedKey.depthAll, kd_strs r]
    rfl
theorem lr_kyP (l : Lr) : kyP (lrD l) = true := by
  unfold lrD
  simp [kyP, kyPs, kyPs_strs]
theorem lr_ky (l : Lr) : KyOk (lrD l) := by
  refine ⟨⟨_, rfl⟩, lr_kyP l, ?_⟩
  unfold lrD
  simp [kyN, kyNs, NestedKey.depth, NestedKey.depthAll, kd_strs]
/-! ### texts of lists -/
end G
/-! xs.insert(i, y); d.update(e), dicts of texts -/
namespace G
open PySem PySem.Spec PyProof.Rows L2 TL
end G
/-! dicts of flat data that are walked through while they are cells (locked for the walk); y in d where y may be None -/
namespace G
open PySem PySem.Spec PyProof.Rows L2 TL
end G
/-! dicts whose keys are texts and None, the values cells or data -/
namespace G
open PySem PySem.Spec PyProof.Rows L2 TL
abbrev NKs := List (Option Str × V)
def oK (o : Option Str) : Option Key := o.map Sum.inr
def oV : Option Str → V
  | none => .non
  | some z => .str z
abbrev NV : NKs → List (Option Key × Value) → Prop := Paired fun q y => y.1 = oK q.1 ∧ RelV q.2 y.2
def nkO (P : Program) (w : World) (a : Addr) (xs : NKs) : HO := .ext fun h => xs.length ≤ sizeLine ∧ (a == sysModules) = false ∧ ∃ vs, NV xs vs ∧ h.DictOf (noneKind P w) a vs
def valN (xs : NKs) (k : Option Str) : Option V := (xs.find? fun q => decide (q.1 = k)).map (·.2)
def putN (xs : NKs) (k : Option Str) (v : V) : NKs := if (valN xs k).isSome then xs.map (fun q => if q.1 = k then (q.1, v) else q) else xs ++ [(k, v)]
/-! ### rules of the machine -/
/-! ### by values -/
def dO : D → Option Str
  | .str z => some z
  | _ => none
theorem dO_opt (o : Option Str) : dO (optD o) = o := by cases o <;> rfl
def nkX (P : Program) (w : World) (a : Addr) (ds : List D) (ws : List (V × V)) : HO := nkO P w a ((ds.zip ws).map fun p => (dO p.1, p.2.2))
abbrev NkD := List (Option Str × Vl)
def nkC (P : Program) (w : World) (kv : NkD) : Cell := .dcx (nkX P w) (kv.map fun p => (optD p.1, p.2))
def lkN (kv : NkD) (k : Option Str) : Option Vl := (kv.find? fun q => decide (q.1 = k)).map (·.2)
def ptN (kv : NkD) (k : Option Str) (x : Vl) : NkD := if (lkN kv k).isSome then kv.map (fun q => if q.1 = k then (q.1, x) else q) else kv ++ [(k, x)]
section
variable {K : PySem.W.Frag} {P : Program} {w : World} {env : G.Env} {cs : List Cell} {Φ : Vl → List Cell → Prop} {ty td tv : TE} {a : AE} {B H : Hp} {A : List Addr}
abbrev NkR (K : PySem.W.Frag) (B : Hp) (A : List Addr) : NkD → NKs → Prop := Paired fun (p : Option Str × Vl) (q : Option Str × V) => q.1 = p.1 ∧ RpV K B A p.2 q.2
theorem nk_zip : ∀ {kv : NkD} {ws : List (V × V)}, Paired (fun (p : D × Vl) (q : V × V) => Rp K B p.1 q.1 ∧ RpV K B A p.2 q.2) (kv.map fun p => (optD p.1, p.2)) ws → NkR K B A kv ((((kv.map fun p => (optD p.1, p.2)).map (·.1)).zip ws).map fun p => (dO p.1, p.2.2))
  | [], _, .nil => .nil
  | p :: kv, _, .cons r t => .cons ⟨dO_opt p.1, r.2⟩ (nk_zip t)
theorem opt_rp {k : Option Str} : Rp K B (optD k) (oV k) := by cases k <;> rfl
theorem nk_unzip : ∀ {kv : NkD} {xs : NKs}, NkR K B A kv xs → ∃ ws, xs = ((((kv.map fun p => (optD p.1, p.2)).map (·.1)).zip ws).map fun p => (dO p.1, p.2.2)) ∧ Paired (fun (p : D × Vl) (q : V × V) => Rp K B p.1 q.1 ∧ RpV K B A p.2 q.2) (kv.map fun p => (optD p.1, p.2)) ws
  | [], _, .nil => ⟨[], rfl, .nil⟩
  | p :: kv, q :: xs, .cons r t => by
    obtain ⟨ws, e, h⟩ := nk_unzip t
    refine ⟨(oV p.1, q.2) :: ws, ?_, .cons ⟨opt_rp, r.2⟩ h⟩
    rw [List.map_cons, List.map_cons, List.zip_cons_cons, List.map_cons, ← e]
    show q :: xs = (dO (optD p.1), q.2) :: xs
    rw [dO_opt, ← r.1]
theorem St.nkC {F : Hp} {σ : L2.St} {j : Nat} {kv : NkD} {v : V} (s : G.St K F B H A env cs σ) (hc : cs[j]? = some (nkC P w kv)) (r : RpV K B A (.cel j) v) : ∃ b xs, A[j]? = some b ∧ v = .ref b ∧ H b = some (nkO P w b xs) ∧ NkR K B A kv xs := by
  obtain ⟨b, hb, rfl⟩ := r
  obtain ⟨ws, h1, h2⟩ := s.ch j b _ hb hc
  exact ⟨b, _, hb, rfl, h1, nk_zip h2⟩
theorem NkR.ok {a : Addr} {kv : NkD} {xs : NKs} (h : NkR K B A kv xs) (hH : H a = some (nkO P w a xs)) : CellOk K B A H a (G.nkC P w kv) := by
  obtain ⟨ws, e, hw⟩ := nk_unzip h
  exact ⟨ws, by rw [hH]; exact congrArg (fun z => some (nkO P w a z)) e, hw⟩
theorem NkR.get {k : Option Str} : ∀ {kv : NkD} {xs : NKs}, NkR K B A kv xs → (lkN kv k = none ∧ valN xs k = none) ∨ ∃ x v, lkN kv k = some x ∧ valN xs k = some v ∧ RpV K B A x v
  | _, _, .nil => .inl ⟨rfl, rfl⟩
  | p :: kv, q :: xs, .cons r t => by
    by_cases e : p.1 = k
    · exact .inr ⟨p.2, q.2, by simp [lkN, List.find?_cons, e], by simp [valN, List.find?_cons, r.1, e], r.2⟩
    · rw [show lkN (p :: kv) k = lkN kv k by simp [lkN, List.find?_cons, e], show valN (q :: xs) k = valN xs k by simp [valN, List.find?_cons, r.1, e]]
      exact NkR.get t
theorem NkR.rep {k : Option Str} {x : Vl} {v : V} (hv : RpV K B A x v) : ∀ {kv : NkD} {xs : NKs}, NkR K B A kv xs → NkR K B A (kv.map fun q => if q.1 = k then (q.1, x) else q) (xs.map fun q => if q.1 = k then (q.1, v) else q)
  | _, _, .nil => .nil
  | p :: kv, q :: xs, .cons r t => by
    rw [List.map_cons, List.map_cons]
    refine .cons ?_ (NkR.rep hv t)
    by_cases c : p.1 = k
    · rw [if_pos c, if_pos (by rw [r.1]; exact c)]
      exact ⟨r.1, hv⟩
    · rw [if_neg c, if_neg (by rw [r.1]; exact c)]
      exact r
theorem NkR.put {k : Option Str} {x : Vl} {v : V} (hv : RpV K B A x v) {kv : NkD} {xs : NKs} (h : NkR K B A kv xs) : NkR K B A (ptN kv k x) (putN xs k v) := by
  have e : (lkN kv k).isSome = (valN xs k).isSome := by
    rcases h.get (k := k) with ⟨h1, h2⟩ | ⟨x, v, h1, h2, _⟩ <;> rw [h1, h2] <;> rfl
  unfold ptN putN
  rw [e]
  split
  · exact NkR.rep hv h
  · exact Paired.app' h (.cons ⟨rfl, hv⟩ .nil)
end
/-! ### dicts of lists: the lists as cells behind the dict, and as data -/
end G
/-! xs.extend(ys), ys a list that is data -/
namespace G
open PySem PySem.Spec PyProof.Rows L2 TL
end G
/-! for x in reversed(a list or a tuple) -/
namespace G
open PySem PySem.Spec PyProof.Rows L2 TL RT
end G
/-! xs.pop() -/
namespace G
open PySem PySem.Spec PyProof.Rows L2 TL RT
end G
/-! sorted(xs, key=lambda a: ..), the lambda with one parameter and names that it captures -/
open PySem PySem.Spec PyProof.Rows L2 TL
namespace G
/-! ### the lambda's names -/
/-- what the making of a lambda has done -/
def Made (H : Hp) (P : Addr) (ps : Array Value) (q : Str) (c' : Addr) (H1 : Hp) : Prop :=
  (H1 = H ∧ ∃ pos, codeAmong pos ps.toList = some (.ref c')) ∨ (H c' = none ∧ ∃ pos : Pos, H1 = upd (upd H P (.tbl (ps ++ #[rawInt pos.line, rawInt pos.col, .ref c']))) c' (LamX.CodeO c' q))
/-! ### sorted -/
theorem SqL.made {K : PySem.W.Frag} {H H2 : Hp} {P c' l : Addr} {ps : Array Value} {q : Str} {xs : List V} (h : SqL K H l xs) (m : Made H P ps q c' H2) (hP : H P = some (.tbl ps)) : SqL K H2 l xs := by
  rcases m with ⟨rfl, _⟩ | ⟨hn, pos, rfl⟩
  · exact h
  · have go : ∀ u, (∀ ps, u ≠ HO.tbl ps) → H l = some u → (upd (upd H P (.tbl (ps ++ #[rawInt pos.line, rawInt pos.col, .ref c']))) c' (LamX.CodeO c' q)) l = some u := fun u n e => by
      rw [upd_ne (ne_of_none e hn), upd_ne (fun z => n ps (Option.some.inj (e.symm.trans (by rw [z]; exact hP))))]
      exact e
    rcases h with (h | ⟨o, h⟩) | h
    · exact .inl (.inl (go _ (fun ps z => by cases z) h))
    · exact .inl (.inr ⟨o, go _ (fun ps z => by cases z) h⟩)
    · exact .inr h
/-! ### by values -/
theorem tabsOf_one {K : PySem.W.Frag} {p q : Addr × Str} (h : p ∈ tabsOf K) (g : q ∈ tabsOf K) : p = q := by
  unfold tabsOf at h g
  cases e : PySem.W.nsIn K mainGlobals lamDef with
  | none =>
    rw [e] at h
    cases h
  | some o =>
    cases o with
    | none =>
      rw [e] at h
      cases h
    | some v =>
      rw [e] at h g
      exact (List.mem_singleton.mp h).trans (List.mem_singleton.mp g).symm
section
variable {K : PySem.W.Frag} {F B H : Hp} {A : List Addr} {env : G.Env} {cs : List Cell} {σ : L2.St} {P : Addr} {q : Str}
theorem St.tab {ps : Array Value} (s : G.St K F B H A env cs σ) (hT : (P, q) ∈ tabsOf K) (ht : TriplesOk ps.toList) (hc : ∀ (pos : Pos) (cv : Value), codeAmong pos ps.toList = some cv → ∃ c, cv = .ref c ∧ B c = some (LamX.CodeO c q)) : G.St K F B (upd H P (.tbl ps)) A env cs σ := by
  obtain ⟨g1, g2, g3, ps0, g4, _⟩ := s.tb _ hT
  have nA : ∀ (k : Nat) (a : Addr), A[k]? = some a → a ≠ P := fun k a h z => g3 (by rw [← z]; exact List.mem_of_getElem? h)
  refine ⟨fun b u h => ?_, fun b u h => ?_, s.bf, s.la, s.nd, s.ca, fun k a c h r => (s.ch k a c h r).mono (Same.refl B) (Pre.refl A) (upd_ne (nA k a h)), s.sl, fun p hp => ?_⟩
  · rw [upd_ne (fun z => by rw [z, g2] at h; cases h)]
    exact s.eb _ _ h
  · rw [upd_ne (fun z => by rw [z, g1] at h; cases h)]
    exact s.ef _ _ h
  · obtain rfl := tabsOf_one hp hT
    exact ⟨g1, g2, g3, ps, upd_same, ht, hc⟩
theorem St.made {ps : Array Value} {c' : Addr} {H2 : Hp} (s : G.St K F B H A env cs σ) (hT : (P, q) ∈ tabsOf K) (hP : H P = some (.tbl ps)) (m : Made H P ps q c' H2) : ∃ B2, Same B B2 ∧ G.St K F B2 H2 A env cs σ ∧ B2 c' = some (LamX.CodeO c' q) := by
  obtain ⟨g1, g2, g3, ps0, g4, g5, g6⟩ := s.tb _ hT
  have g4 : H P = some (.tbl ps0) := g4
  rw [hP] at g4
  cases g4
  rcases m with ⟨rfl, pos, hc⟩ | ⟨hn, pos, rfl⟩
  · obtain ⟨c, e, hb⟩ := g6 pos _ hc
    cases e
    exact ⟨B, Same.refl B, s, hb⟩
  · have nP : P ≠ c' := ne_of_none hP hn
    have s2 := s.tup (o := LamX.CodeO c' q) hn
    have sb : Same B (upd B c' (LamX.CodeO c' q)) := same_up s.eb hn
    have eL : (ps ++ #[rawInt pos.line, rawInt pos.col, .ref c']).toList = ps.toList ++ [rawInt pos.line, rawInt pos.col, .ref c'] := by simp
    have s3 := s2.tab (ps := ps ++ #[rawInt pos.line, rawInt pos.col, .ref c']) hT (by rw [eL]; exact PySem.TriplesOk_snoc _ _ _ _ g5) (fun p' cv hcv => by
      rw [eL] at hcv
      rcases LamX.among_app _ g5 hcv with z | z
      · obtain ⟨c0, e1, e2⟩ := g6 p' cv z
        exact ⟨c0, e1, sb _ _ e2⟩
      · exact ⟨c', z, upd_same⟩)
    have eH : upd (upd H c' (LamX.CodeO c' q)) P (.tbl (ps ++ #[rawInt pos.line, rawInt pos.col, .ref c'])) = upd (upd H P (.tbl (ps ++ #[rawInt pos.line, rawInt pos.col, .ref c']))) c' (LamX.CodeO c' q) := by
      funext b
      by_cases h1 : b = P
      · rw [h1, upd_same, upd_ne nP, upd_same]
      · rw [upd_ne h1]
        by_cases h2 : b = c'
        · rw [h2, upd_same, upd_same]
        · rw [upd_ne h2, upd_ne h2, upd_ne h1]
    rw [eH] at s3
    exact ⟨_, sb, s3, upd_same⟩
end
end G
/-! objects: their fields, their making, their methods; a lambda as the key of sorted -/
open PySem PySem.Spec PyProof.Rows L2 TL
namespace G
/-! ### fields -/
def putV (f : Str) (y : Vl) : List (Str × Vl) → List (Str × Vl)
  | [] => [(f, y)]
  | p :: r => if p.1 = f then (p.1, y) :: r else p :: putV f y r
abbrev FldR (K : PySem.W.Frag) (B : Hp) (A : List Addr) : List (Str × Vl) → List (Str × V) → Prop := Paired fun p q => p.1 = q.1 ∧ RpV K B A p.2 q.2
theorem fr_get {K : PySem.W.Frag} {B : Hp} {A : List Addr} {f : Str} : ∀ {fs : List (Str × Vl)} {ws : List (Str × V)}, FldR K B A fs ws → (∀ x, fs.lookup f = some x → ∃ v, ws.lookup f = some v ∧ RpV K B A x v) ∧ (fs.lookup f = none → ws.lookup f = none)
  | [], [], _ => ⟨(fun _ h => nomatch h), fun _ => rfl⟩
  | p :: fs, q :: ws, .cons r t => by
    obtain ⟨n, x⟩ := p
    obtain ⟨m, v⟩ := q
    obtain ⟨rfl, r⟩ := r
    have ih := fr_get (f := f) t
    by_cases e : f = n
    · subst e
      refine ⟨fun y h => ?_, fun h => ?_⟩
      · simp only [List.lookup, beq_self_eq_true] at h
        cases h
        exact ⟨v, by simp only [List.lookup, beq_self_eq_true], r⟩
      · simp only [List.lookup, beq_self_eq_true] at h
        cases h
    · have hb : (f == n) = false := by simpa using e
      refine ⟨fun y h => ?_, fun h => ?_⟩
      · simp only [List.lookup, hb] at h ⊢
        exact ih.1 y h
      · simp only [List.lookup, hb] at h ⊢
        exact ih.2 h
theorem fr_put {K : PySem.W.Frag} {B : Hp} {A : List Addr} {f : Str} {x : Vl} {v : V} (r0 : RpV K B A x v) : ∀ {fs : List (Str × Vl)} {ws : List (Str × V)}, FldR K B A fs ws → FldR K B A (putV f x fs) (putF f v ws)
  | [], [], _ => .cons ⟨rfl, r0⟩ .nil
  | p :: fs, q :: ws, .cons r t => by
    obtain ⟨n, y⟩ := p
    obtain ⟨m, u⟩ := q
    obtain ⟨rfl, r⟩ := r
    unfold putV putF
    by_cases e : n = f
    · rw [if_pos e, if_pos e]
      exact .cons ⟨rfl, r0⟩ t
    · rw [if_neg e, if_neg e]
      exact .cons ⟨rfl, r⟩ (fr_put r0 t)
section
variable {K : PySem.W.Frag} {env : G.Env} {cs : List Cell} {Φ : Vl → List Cell → Prop} {ta tv te : TE} {f m : Str} {a : AE}
theorem we_fld (h : wpE K ta env cs fun x c => ∃ (k : Nat) (C : Addr) (fs : List (Str × Vl)) (v : Vl), x = .cel k ∧ c[k]? = some (.obj C fs) ∧ Cls K C ∧ NoAttr K C f ∧ fs.lookup f = some v ∧ Φ v c) : wpE K (tFld K ta f) env cs Φ := fun F B H A σ s Q q =>
  h F B H A σ s _ fun x c1 v B1 H1 A1 ⟨k, C, fs, y, ex, hc, hC, hN, hl, f⟩ e1 p1 s1 r1 => by
    subst ex
    obtain ⟨b, hb, rfl⟩ := r1
    obtain ⟨dx, ws, hH, hp⟩ := s1.ch k b _ hb hc
    obtain ⟨w', hw, hr⟩ := (fr_get hp).1 y hl
    exact ⟨b, C, dx, ws, w', rfl, hH, hC, hN, hw, (q.on e1 p1).now s1 hr f⟩
theorem ws_fld (h : wpE K tv env cs fun y c1 => wpE K ta env c1 fun x c => ∃ (k : Nat) (C : Addr) (fs : List (Str × Vl)), x = .cel k ∧ c[k]? = some (.obj C fs) ∧ Cls K C ∧ NoAttr K C f ∧ fs.length < 1000 ∧ a.nx env (c.set k (.obj C (putV f y fs)))) : G.wpS K (sFld K ta tv f) env cs a := fun F B H A σ s D q1 q2 q3 q4 =>
  h F B H A σ s _ fun y c1 v B1 H1 A1 g e1 p1 s1 r1 => g F B1 H1 A1 σ s1 _ fun x c2 u B2 H2 A2 ⟨k, C, fs, ex, hc, hC, hN, hl, f⟩ e2 p2 s2 r2 => by
    subst ex
    obtain ⟨b, hb, rfl⟩ := r2
    obtain ⟨dx, ws, hH, hp⟩ := s2.ch k b _ hb hc
    refine ⟨b, C, dx, ws, rfl, hH, hC, hN, by rw [← Paired.length hp]; exact hl, ?_⟩
    exact q1 _ _ _ B2 _ A2 f (e1.trans e2) (p1.trans p2) (s2.put hb (c := .obj C _) ⟨dx, _, upd_same, fr_put (RpV.mono e2 p2 r1) hp⟩)
def tObj (C : Addr) (m : Str) (ta : TE) : TE := fun σ H Q => ta σ H fun x H1 => ∃ a dx fs, x = .ref a ∧ H1 a = some (.ins C dx fs) ∧ fs.lookup m = none ∧ Q x H1
theorem we_obj {C : Addr} (h : wpE K ta env cs fun x c => ∃ (k : Nat) (fs : List (Str × Vl)), x = .cel k ∧ c[k]? = some (.obj C fs) ∧ fs.lookup m = none ∧ Φ (.cel k) c) : wpE K (tObj C m ta) env cs Φ := fun F B H A σ s Q q =>
  h F B H A σ s _ fun x c1 v B1 H1 A1 ⟨k, fs, ex, hc, hl, f⟩ e1 p1 s1 r1 => by
    subst ex
    obtain ⟨b, hb, rfl⟩ := r1
    obtain ⟨dx, ws, hH, hp⟩ := s1.ch k b _ hb hc
    exact ⟨b, dx, ws, rfl, hH, (fr_get hp).2 hl, (q.on e1 p1).now s1 (x := .cel k) (show RpV K B1 A1 (.cel k) (.ref b) from ⟨b, hb, rfl⟩) f⟩
end
theorem kp_meth {X : Cx} {e : Expr} {C : Addr} {m : Str} {sp : Sp} {E : XK} {ta : TE} {t : TA} (h : PE X e (tMeth C m sp [] E ta t)) : PE X e (tCall sp [] E (tCons (tObj C m ta) t)) := h
/-! ### the making of an object -/
def shV (n : Nat) : Vl → Vl
  | .dat d => .dat d
  | .cel k => .cel (n + k)
def shC (n : Nat) : Cell → Cell
  | .lst xs => .lst (xs.map (shV n))
  | .dct kvs => .dct (kvs.map fun p => (p.1, shV n p.2))
  | .obj C fs => .obj C (fs.map fun p => (p.1, shV n p.2))
  | .dcx o kvs => .dcx o (kvs.map fun p => (p.1, shV n p.2))
section
variable {K : PySem.W.Frag} {F B B' H H' : Hp} {A A' : List Addr} {env : G.Env} {cs : List Cell} {σ : L2.St} {Φ : Vl → List Cell → Prop}
theorem RpV.sh {x : Vl} {v : V} (h : RpV K B A' x v) : RpV K B (A ++ A') (shV A.length x) v := by
  cases x with
  | dat d => exact h
  | cel k =>
    obtain ⟨a, h1, h2⟩ := h
    refine ⟨a, ?_, h2⟩
    rw [List.getElem?_append_right (by omega), Nat.add_sub_cancel_left]
    exact h1
theorem Paired.mapL' {α α' β : Type} {F : α → β → Prop} {G : α' → β → Prop} (g : α → α') (h : ∀ a b, F a b → G (g a) b) : ∀ {l₁ : List α} {l₂ : List β}, Paired F l₁ l₂ → Paired G (l₁.map g) l₂
  | _, _, .nil => .nil
  | _, _, .cons r t => .cons (h _ _ r) (Paired.mapL' g h t)
theorem CellOk.sh {a : Addr} {c : Cell} (h : CellOk K B A' H a c) : CellOk K B (A ++ A') H a (shC A.length c) := by
  cases c with
  | lst xs =>
    obtain ⟨vs, h1, h2⟩ := h
    exact ⟨vs, h1, Paired.mapL' _ (fun _ _ r => RpV.sh r) h2⟩
  | dct kvs =>
    obtain ⟨vs, h1, h2⟩ := h
    exact ⟨vs, h1, Paired.mapL' _ (fun _ _ r => ⟨r.1, RpV.sh r.2⟩) h2⟩
  | obj C fs =>
    obtain ⟨dx, vs, h1, h2⟩ := h
    exact ⟨dx, vs, h1, Paired.mapL' _ (fun _ _ r => ⟨r.1, RpV.sh r.2⟩) h2⟩
  | dcx o kvs =>
    obtain ⟨vs, h1, h2⟩ := h
    exact ⟨vs, by rw [List.map_map]; exact h1, Paired.mapL' _ (fun _ _ r => ⟨r.1, RpV.sh r.2⟩) h2⟩
theorem St.fresh {p : Addr} {o : HO} (s : G.St K F B H A env cs σ) (h : H p = none) : G.St K F B (upd H p o) A env cs σ := by
  have nA : ∀ (k : Nat) (a : Addr), A[k]? = some a → a ≠ p := fun k a q z => s.there q (by rw [z]; exact h)
  refine ⟨fun b u q => ?_, fun b u q => ?_, s.bf, s.la, s.nd, s.ca, fun k a c q r => (s.ch k a c q r).mono (Same.refl B) (Pre.refl A) (upd_ne (nA k a q)), s.sl, s.tb.up h⟩
  · rw [upd_ne (ne_of_none (s.eb _ _ q) h)]
    exact s.eb _ _ q
  · rw [upd_ne (ne_of_none (s.ef _ _ q) h)]
    exact s.ef _ _ q
/-- what a callee that got one new cell leaves behind, all its cells kept -/
theorem St.join {x : Addr} {H0 : Hp} {cs' : List Cell} {env' : G.Env} {σ' : L2.St} (s : G.St K F B H A env cs σ) (s' : G.St K (rim (A ++ [x]) [x] H0 F) B' H' A' env' cs' σ') (hx : x ∉ A) (h0 : ∀ a, a ∈ A → H0 a = H a) (e : Same B B') :
    G.St K F B' H' (A ++ A') env (cs ++ cs'.map (shC cs.length)) σ := by
  have hA : ∀ a, a ∈ A → rim (A ++ [x]) [x] H0 F a = H a := fun a ha => by
    unfold rim
    rw [if_pos ⟨List.mem_append_left _ ha, fun z => hx (by rw [← List.mem_singleton.mp z]; exact ha)⟩]
    exact h0 a ha
  have hF : ∀ b u, F b = some u → rim (A ++ [x]) [x] H0 F b = some u := fun b u q => by
    unfold rim
    rw [if_neg]
    · exact q
    · rintro ⟨h1, h2⟩
      rcases List.mem_append.mp h1 with h1 | h1
      · obtain ⟨k, hk⟩ := List.getElem?_of_mem h1
        rw [(s.ca k b hk).2] at q
        cases q
      · exact h2 h1
  have hH : ∀ a, a ∈ A → ∃ o, H a = some o := fun a ha => by
    obtain ⟨k, hk⟩ := List.getElem?_of_mem ha
    cases q : H a with
    | none => exact absurd q (s.there hk)
    | some o => exact ⟨o, rfl⟩
  have hA' : ∀ a, a ∈ A' → a ∉ A := fun a ha z => by
    obtain ⟨k, hk⟩ := List.getElem?_of_mem ha
    have h2 := (s'.ca k a hk).2
    rw [hA a z] at h2
    obtain ⟨o, ho⟩ := hH a z
    rw [ho] at h2
    cases h2
  have hF' : ∀ a, a ∈ A' → F a = none := fun a ha => by
    cases q : F a with
    | none => rfl
    | some u =>
      obtain ⟨k, hk⟩ := List.getElem?_of_mem ha
      have h2 := (s'.ca k a hk).2
      rw [hF a u q] at h2
      cases h2
  have hk : ∀ (k : Nat) (a : Addr), (A ++ A')[k]? = some a → (k < A.length ∧ A[k]? = some a) ∨ (A.length ≤ k ∧ A'[k - A.length]? = some a) := fun k a q => by
    by_cases hl : k < A.length
    · rw [List.getElem?_append_left hl] at q
      exact .inl ⟨hl, q⟩
    · rw [List.getElem?_append_right (by omega)] at q
      exact .inr ⟨by omega, q⟩
  refine ⟨s'.eb, fun b u q => s'.ef b u (hF b u q), fun b u q => s'.bf b u (hF b u q), ?_, ?_, fun k a q => ?_, fun k a c q r => ?_, RpOs.mono e (Pre.app A A') s.sl, ?_⟩
  · rw [List.length_append, List.length_append, List.length_map, s.la, s'.la]
  · exact List.nodup_append.mpr ⟨s.nd, s'.nd, fun a ha b hb z => hA' b hb (by rw [← z]; exact ha)⟩
  · rcases hk k a q with ⟨_, q⟩ | ⟨_, q⟩
    · have ha := List.mem_of_getElem? q
      obtain ⟨o, ho⟩ := hH a ha
      exact ⟨s'.bf a o (by rw [hA a ha]; exact ho), (s.ca k a q).2⟩
    · exact ⟨(s'.ca _ a q).1, hF' a (List.mem_of_getElem? q)⟩
  · rcases hk k a q with ⟨hl, q⟩ | ⟨hl, q⟩
    · rw [List.getElem?_append_left (by rw [← s.la]; exact hl)] at r
      have ha := List.mem_of_getElem? q
      obtain ⟨o, ho⟩ := hH a ha
      exact (s.ch k a c q r).mono e (Pre.app A A') (by rw [ho]; exact s'.ef a o (by rw [hA a ha]; exact ho))
    · rw [List.getElem?_append_right (by rw [← s.la]; exact hl), List.getElem?_map, ← s.la] at r
      obtain ⟨c0, hc0, rfl⟩ := Option.map_eq_some_iff.mp r
      exact (s'.ch _ a c0 q hc0).sh
  · refine s'.tb.step (Same.refl B') fun P ps h1 h2 h3 h4 => ⟨?_, h3, fun z => ?_, h1⟩
    · cases q : F P with
      | none => rfl
      | some u =>
        rw [hF P u q] at h2
        cases h2
    · rcases List.mem_append.mp z with z | z
      · rw [hA P z] at h2
        obtain ⟨o, ho⟩ := hH P z
        rw [ho] at h2
        cases h2
      · exact h4 z
theorem we_make {as : AS} {E : XK} {C : Addr} {t : TA} (h : wpA K t env cs fun xs c1 => ∃ (ds : List D) (Φ' : Vl → List Cell → Prop), xs = ds.map .dat ∧ as (.cel 0 :: ds.map .dat) [.obj C []] Φ' ∧
      ∀ x c', Φ' x c' → x = .dat .none ∧ Φ (.cel c1.length) (c1 ++ c'.map (shC c1.length))) : wpE K (tMake C (conc K as) [] E t) env cs Φ := fun F B H A σ s Q q =>
  h F B H A σ s _ fun xs c1 vs B1 H1 A1 ⟨ds, Φ', ex, ha, hq⟩ e1 p1 s1 r1 => by
    subst ex
    intro x dx nx nd ne
    rw [List.append_nil]
    have sF := s1.fresh (o := .own x) nd
    have nx2 : (upd H1 dx (.own x)) x = none := by rw [upd_ne (fun z => ne z.symm)]; exact nx
    have s2 := sF.new (c := .obj C []) nx2 (o := .ins C dx []) ⟨dx, [], upd_same, .nil⟩
    have hxA : x ∉ A1 := fun z => by
      obtain ⟨k, hk⟩ := List.getElem?_of_mem z
      exact s1.there hk nx
    have sb : Sub (A1 ++ [x]) [x] [c1.length] := by
      refine ⟨rfl, fun j k hj => ?_⟩
      cases j with
      | zero =>
        obtain rfl : c1.length = k := Option.some.inj (by simpa using hj)
        exact ⟨x, by rw [← s1.la, List.getElem?_append_right (Nat.le_refl _), Nat.sub_self]; rfl, rfl⟩
      | succ j => simp at hj
    have s3 := s2.sub (ks := [c1.length]) (cs0 := [.obj C []]) sb (by simp) (CsB.cons (fun p hp => by cases hp) CsB.nil) rfl (fun j k hj => by
      cases j with
      | zero =>
        obtain rfl : c1.length = k := Option.some.inj (by simpa using hj)
        exact ⟨.obj C [], rfl, by rw [List.getElem?_append_right (Nat.le_refl _), Nat.sub_self]; rfl⟩
      | succ j => simp at hj)
    have r2 : RpVs K B1 [x] (.cel 0 :: ds.map .dat) (.ref x :: vs) := .cons ⟨x, rfl, rfl⟩ (RpVs.of_dats (RpVs.dats r1))
    refine ⟨_, B1, [x], .cel 0 :: ds.map .dat, [.obj C []], Φ', s3.withEnv (some_rel r2), ha, fun y c' v B' H' A' f' e' p' s' => ?_⟩
    obtain ⟨rfl, f2⟩ := hq y c' f'
    cases s'.sl with
    | cons r _ =>
      refine ⟨r, ?_⟩
      have s4 := s1.join s' hxA (fun a ha => by
        have n1 : a ≠ x := fun z => hxA (by rw [← z]; exact ha)
        have n2 : a ≠ dx := fun z => by
          obtain ⟨k, hk⟩ := List.getElem?_of_mem ha
          exact s1.there hk (by rw [z]; exact nd)
        rw [upd_ne n1, upd_ne n2]) e'
      refine q _ _ _ B' H' (A1 ++ A') f2 (e1.trans e') (p1.trans (Pre.app A1 A')) s4 ⟨x, ?_, rfl⟩
      rw [← s1.la, List.getElem?_append_right (Nat.le_refl _), Nat.sub_self]
      exact p' 0 x rfl
end
/-! ### a def that keeps all its cells -/
section
variable {P : Program} {w : World} {K : PySem.W.Frag} {mg : Str → Option Value} {base : Heap}
theorem fn_absE {x qual : Str} {st : Stmt} {f : Addr} {fd : FuncData} {N ps : List Str} {k : Nat} {a : AS} (Fn : FnP K x qual st f fd) (S : FnScope N ps (defScope st)) (len : ∀ args cs Φ, a args cs Φ → args.length = ps.length)
    (body : ∀ (cdv : Value) (A : Around) (outer : List PySem.Env) (s : Shared) (H : Hp) (E : XK), Room k (A.deeper (envOfC qual (defScope st) s.heap.objs.size f cdv)) →
      ∃ t, PSs (cxOf CX0 P w K mg base N qual (defScope st) f cdv A outer s H E).nox (defBody st) t ∧
        ∀ args cs Φ, a args cs Φ → wpS K t (args.map some ++ List.replicate (N.length - args.length) none) cs { nx := fun _ c => Φ (.dat .none) c, rt := fun x c => Φ x c }) :
    FnOk P w K mg base CX0 (k + 1) f fd ps (conc K a) := by
  refine Fn.ok S (fun vs H Q E h => ?_) (fun cdv A outer s H vs Q E hr h => ?_)
  · obtain ⟨F, B, A, args, cs, Φ, hs, ha, _⟩ := h
    rw [← len args cs Φ ha, (Paired.length (rel_some hs.sl))]
  · obtain ⟨t, ht, hw⟩ := body cdv A outer s H E hr
    obtain ⟨F, B, A0, args, cs, Φ, hs, ha, q⟩ := h
    refine ⟨t, ht.nox, hw args cs Φ ha F B H A0 _ (hs.withEnv ?_) _ ?_ ?_ (fun _ _ _ _ _ _ f => f.elim) (fun _ _ _ _ _ _ f => f.elim)⟩
    · unfold L2.start
      refine Paired.app' hs.sl ?_
      rw [Paired.length (rel_some hs.sl)]
      exact Paired.rep (show RpO K B A0 none none from trivial) _
    · exact fun env' cs' σ' B' H' A' f e p s' => q _ cs' _ B' H' A' f e p (s'.withEnv (.cons (show RpV K B' A' (.dat .none) .non from rfl) .nil))
    · exact fun x cs' v env' σ' B' H' A' f e p s' r => q x cs' v B' H' A' f e p (s'.withEnv (.cons r .nil))
end
end G
/-! ### what the top says -/
namespace G
open PySem PySem.Spec PyProof.Rows L2 TL
theorem no_tabs {K : PySem.W.Frag} (c : (He.Fa.free lamDef).ok K = true) : tabsOf K = [] := tabsOf_nil (He.eqO_ok c)
/-- a method of a class -/
structure Dm (K : PySem.W.Frag) (c m q : Str) (st : Stmt) (ps : List Str) where
  fd : FuncData
  F : FnP K m q st (He.fAd K (c, some m)) fd
  b : Binds K fd ps []
end G
/-! names sorted by a number and the name -/
open PySem PySem.Spec PyProof.Rows L2 TL
namespace G
end G
/-! trees told by elders: the lines of a place, each place once -/
open PySem PySem.Spec PyProof.Rows L2 TL
namespace G
structure Kin (names : List Str) (up : Str → Option Str) (kd : Option Str → List Str) : Prop where
  nn : names.Nodup
  nd : ∀ k, (kd k).Nodup
  mem : ∀ k n, n ∈ kd k ↔ n ∈ names ∧ up n = k
  dom : ∀ a b, up a = some b → a ∈ names ∧ b ∈ names
  nr : NoRing up
def depN (up : Str → Option Str) (names : List Str) (n : Str) : Nat := (goL up (names.length + 1) (some n)).length
def linF (kd : Option Str → List Str) : Nat → Nat → Str → List (Nat × Str)
  | 0, _, _ => []
  | m + 1, d, n => (d, n) :: (kd (some n)).flatMap (linF kd m (d + 1))
def linN (up : Str → Option Str) (kd : Option Str → List Str) (names : List Str) (d : Nat) (n : Str) : List (Nat × Str) := linF kd (names.length + 2 - depN up names n) d n
section
variable {names : List Str} {up : Str → Option Str} {kd : Option Str → List Str}
theorem Kin.ends (h : Kin names up kd) (o : Option Str) : iterO up (names.length + 1) o = none := by
  cases e : iterO up (names.length + 1) o with
  | none => rfl
  | some y =>
    have := way_bound (fun a b q => (h.dom a b q).1) h.nr (o := o) (n := names.length + 1) (by rw [e]; exact fun z => nomatch z)
    omega
theorem dep_le (n : Str) : depN up names n ≤ names.length + 1 := goL_len up _ _
theorem Kin.dep_kid (h : Kin names up kd) {k n : Str} (e : up k = some n) : depN up names k = depN up names n + 1 := by
  unfold depN
  show (k :: goL up names.length (up k)).length = _
  rw [List.length_cons, e]
  have h1 : iterO up names.length (some n) = none := by
    have := h.ends (some k)
    rw [Nat.add_comm, iterO_add] at this
    have e1 : iterO up 1 (some k) = some n := e
    rw [e1] at this
    exact this
  rw [goL_fuel names.length (names.length + 1) (some n) h1 (h.ends _)]
theorem Kin.lin_eq (h : Kin names up kd) (d : Nat) (n : Str) : linN up kd names d n = (d, n) :: (kd (some n)).flatMap (linN up kd names (d + 1)) := by
  have h1 := dep_le (up := up) (names := names) n
  obtain ⟨m, hm⟩ : ∃ m, names.length + 2 - depN up names n = m + 1 := ⟨names.length + 1 - depN up names n, by omega⟩
  unfold linN
  rw [hm]
  show (d, n) :: _ = _
  congr 1
  rw [List.flatMap, List.flatMap]
  congr 1
  refine List.map_congr_left fun k hk => ?_
  have := h.dep_kid ((h.mem _ _).mp hk).2
  rw [show names.length + 2 - depN up names k = m by omega]
/-- all lines -/
def linesN (up : Str → Option Str) (kd : Option Str → List Str) (names : List Str) : List (Nat × Str) := (kd none).flatMap (linN up kd names 0)
theorem Kin.root_of (h : Kin names up kd) {x : Str} (hx : x ∈ names) : ∃ j r, iterO up j (some x) = some r ∧ r ∈ kd none := by
  have : ∀ m, (∀ j, j ≤ m → ∃ y, iterO up j (some x) = some y) ∨ ∃ j r, iterO up j (some x) = some r ∧ up r = none := by
    intro m
    induction m with
    | zero => exact .inl fun j hj => ⟨x, by rw [Nat.le_zero.mp hj]; rfl⟩
    | succ m ih =>
      rcases ih with ih | ih
      · obtain ⟨y, hy⟩ := ih m (Nat.le_refl _)
        cases u : up y with
        | none => exact .inr ⟨m, y, hy, u⟩
        | some z =>
          refine .inl fun j hj => ?_
          rcases Nat.lt_or_ge m j with h1 | h1
          · obtain rfl : j = m + 1 := by omega
            exact ⟨z, by rw [iterO_succ, hy]; exact u⟩
          · exact ih j h1
      · exact .inr ih
  rcases this (names.length + 1) with h1 | ⟨j, r, h1, h2⟩
  · obtain ⟨y, hy⟩ := h1 _ (Nat.le_refl _)
    rw [h.ends] at hy
    cases hy
  · refine ⟨j, r, h1, (h.mem _ _).mpr ⟨?_, h2⟩⟩
    cases j with
    | zero =>
      have h1 : some x = some r := h1
      cases h1
      exact hx
    | succ j =>
      rw [iterO_succ] at h1
      cases q : iterO up j (some x) with
      | none =>
        rw [q] at h1
        cases h1
      | some k =>
        rw [q] at h1
        exact (h.dom _ _ h1).2
end
end G
/-! methods of an object that hands on one more cell; its fields by their places -/
open PySem PySem.Spec PyProof.Rows L2 TL
namespace G
/-! ### fields by places -/
theorem fld_get {fs : List (Str × Vl)} {ks : List Str} {i : Nat} {f : Str} {v : Vl} (hn : ks.Nodup) (hk : fs.map (·.1) = ks) (hi : fs[i]? = some (f, v)) : fs.lookup f = some v := by
  subst hk
  induction fs generalizing i with
  | nil => simp at hi
  | cons p fs ih =>
    obtain ⟨n, x⟩ := p
    rw [List.map_cons] at hn
    obtain ⟨h1, h2⟩ := List.nodup_cons.mp hn
    cases i with
    | zero =>
      have e : (n, x) = (f, v) := Option.some.inj (by simpa using hi)
      cases e
      simp [List.lookup]
    | succ i =>
      have hi : fs[i]? = some (f, v) := by simpa using hi
      have hne : (f == n) = false := by
        rw [beq_eq_false_iff_ne]
        intro z
        subst z
        exact h1 (List.mem_map.mpr ⟨_, List.mem_of_getElem? hi, rfl⟩)
      simp only [List.lookup, hne]
      exact ih hi h2
theorem fld_no {fs : List (Str × Vl)} {ks : List Str} {f : Str} (hk : fs.map (·.1) = ks) (h : f ∉ ks) : fs.lookup f = none := by
  subst hk
  induction fs with
  | nil => rfl
  | cons p fs ih =>
    obtain ⟨n, x⟩ := p
    rw [List.map_cons, List.mem_cons, not_or] at h
    have hne : (f == n) = false := by
      rw [beq_eq_false_iff_ne]
      exact h.1
    simp only [List.lookup, hne]
    exact ih h.2
theorem fld_put {fs : List (Str × Vl)} {ks : List Str} {f : Str} {y : Vl} (hk : fs.map (·.1) = ks) (h : f ∉ ks) : putV f y fs = fs ++ [(f, y)] := by
  subst hk
  induction fs with
  | nil => rfl
  | cons p fs ih =>
    rw [List.map_cons, List.mem_cons, not_or] at h
    unfold putV
    rw [if_neg fun z => h.1 z.symm, ih h.2]
    rfl
section
variable {X : Cx} {o e value : Expr} {f : Str} {pos pos' : Pos} {ta tv : TE} {K : PySem.W.Frag}
theorem kp_fld (hK : X.K = K) (he : PE X e ta) (hb : attributeBase e f X.env (eval e X.env) = eval e X.env) : PE X (.Attribute e f pos) (tFld K ta f) := by
  subst hK
  exact pe_fld he hb
theorem ks_fld (hK : X.K = K) (ha : PE X o ta) (hv : PE X value tv) (hs : swapsWith value (some (.Attribute o f pos')) pos.line X.env = pure false) : PS X (.Assign [.Attribute o f pos'] value pos) (sFld K ta tv f) := by
  subst hK
  exact ps_fld ha hv hs
end
section
variable {K : PySem.W.Frag} {env : G.Env} {cs : List Cell} {a : AE}
theorem ws_fldN {tv : TE} {i k : Nat} {C : Addr} {fs : List (Str × Vl)} {ks : List Str} {f : Str} (hv : env[i]? = some (some (.cel k))) (hc : cs[k]? = some (.obj C fs)) (hk : fs.map (·.1) = ks) (hf : f ∉ ks) (hl : ks.length < 1000) (hC : Cls K C) (hN : NoAttr K C f)
    (h : G.wpE K tv env cs fun y c => c[k]? = some (.obj C fs) ∧ a.nx env (c.set k (.obj C (fs ++ [(f, y)])))) : G.wpS K (sFld K (tVar i) tv f) env cs a :=
  ws_fld (wpE.mono h fun y c ⟨h1, h2⟩ => we_var hv ⟨k, C, fs, rfl, h1, hC, hN, by rw [← hk, List.length_map] at hl; exact hl, by rw [fld_put hk hf]; exact h2⟩)
theorem we_fldG {Φ : Vl → List Cell → Prop} {i k j : Nat} {C : Addr} {fs : List (Str × Vl)} {ks : List Str} {f : Str} {v : Vl} (hv : env[i]? = some (some (.cel k))) (hc : cs[k]? = some (.obj C fs)) (hn : ks.Nodup) (hk : fs.map (·.1) = ks) (hj : fs[j]? = some (f, v)) (hC : Cls K C) (hN : NoAttr K C f) (h : Φ v cs) : G.wpE K (tFld K (tVar i) f) env cs Φ :=
  we_fld (we_var hv ⟨k, C, fs, v, rfl, hc, hC, hN, fld_get hn hk hj, h⟩)
end
/-! ### methods that change nothing -/
end G
/-! the lines of a place stand together among all lines -/
open PySem PySem.Spec PyProof.Rows L2 TL
namespace G
section
variable {names : List Str} {up : Str → Option Str} {kd : Option Str → List Str}
theorem head_flat {f : Str → List (Nat × Str)} {e : Nat} (hf : ∀ k, (f k).head? = none ∨ ∃ l, (f k).head? = some l ∧ l.1 ≤ e) : ∀ (ks : List Str) (l : Nat × Str), (ks.flatMap f).head? = some l → l.1 ≤ e
  | [], l, h => by cases h
  | k :: ks, l, h => by
    rw [List.flatMap_cons, List.head?_append] at h
    rcases hf k with h1 | ⟨l1, h1, h2⟩
    · rw [h1] at h
      exact head_flat hf ks l h
    · rw [h1] at h
      cases h
      exact h2
theorem Kin.head (h : Kin names up kd) (e : Nat) (k : Str) : (linN up kd names e k).head? = none ∨ ∃ l, (linN up kd names e k).head? = some l ∧ l.1 ≤ e := by
  rw [h.lin_eq]
  exact .inr ⟨_, rfl, Nat.le_refl _⟩
theorem Kin.split (h : Kin names up kd) {n : Str} : ∀ (j : Nat) (m : Str) (e : Nat), iterO up j (some n) = some m → ∃ pre post, linN up kd names e m = pre ++ linN up kd names (e + j) n ++ post ∧ ∀ l, post.head? = some l → l.1 ≤ e + j
  | 0, m, e, q => by
    have q : some n = some m := q
    cases q
    exact ⟨[], [], by rw [List.nil_append, List.append_nil]; rfl, fun l hl => by cases hl⟩
  | j + 1, m, e, q => by
    rw [iterO_succ] at q
    cases u : iterO up j (some n) with
    | none =>
      rw [u] at q
      cases q
    | some k =>
      rw [u] at q
      have q : up k = some m := q
      obtain ⟨pre, post, h1, h2⟩ := h.split j k (e + 1) u
      have hk : k ∈ kd (some m) := (h.mem _ _).mpr ⟨(h.dom _ _ q).1, q⟩
      obtain ⟨k1, k2, hk2⟩ := List.append_of_mem hk
      refine ⟨(e, m) :: (k1.flatMap (linN up kd names (e + 1)) ++ pre), post ++ k2.flatMap (linN up kd names (e + 1)), ?_, fun l hl => ?_⟩
      · rw [h.lin_eq, hk2, List.flatMap_append, List.flatMap_cons, h1, show e + (j + 1) = e + 1 + j by omega]
        simp [List.append_assoc]
      · rw [List.head?_append] at hl
        cases p : post.head? with
        | none =>
          rw [p] at hl
          have := head_flat (h.head (e + 1)) k2 l hl
          omega
        | some x =>
          rw [p] at hl
          cases hl
          have := h2 _ p
          omega
theorem Kin.place (h : Kin names up kd) {n : Str} (hn : n ∈ names) : ∃ pre post j, linesN up kd names = pre ++ linN up kd names j n ++ post ∧ ∀ l, post.head? = some l → l.1 ≤ j := by
  obtain ⟨j, r, h1, h2⟩ := h.root_of hn
  obtain ⟨pre, post, h3, h4⟩ := h.split j r 0 h1
  rw [Nat.zero_add] at h3 h4
  obtain ⟨k1, k2, hk2⟩ := List.append_of_mem h2
  refine ⟨k1.flatMap (linN up kd names 0) ++ pre, post ++ k2.flatMap (linN up kd names 0), j, ?_, fun l hl => ?_⟩
  · unfold linesN
    rw [hk2, List.flatMap_append, List.flatMap_cons, h3]
    simp [List.append_assoc]
  · rw [List.head?_append] at hl
    cases p : post.head? with
    | none =>
      rw [p] at hl
      have := head_flat (h.head 0) k2 l hl
      omega
    | some x =>
      rw [p] at hl
      cases hl
      exact h4 _ p
end
end G
/-! all names at a place and beneath: sums and greatest ones over them -/
open PySem PySem.Spec PyProof.Rows L2 TL
namespace G
section
variable {names : List Str} {up : Str → Option Str} {kd : Option Str → List Str}
/-- from the kids to their elder -/
theorem Kin.down (h : Kin names up kd) {P : Str → Prop} (step : ∀ n, n ∈ names → (∀ k, k ∈ kd (some n) → P k) → P n) : ∀ n, n ∈ names → P n := by
  have : ∀ m n, names.length + 1 - depN up names n ≤ m → n ∈ names → P n := by
    intro m
    induction m with
    | zero =>
      intro n hm hn
      refine step n hn fun k hk => ?_
      have h1 := h.dep_kid ((h.mem _ _).mp hk).2
      have h2 := dep_le (up := up) (names := names) k
      omega
    | succ m ih =>
      intro n hm hn
      refine step n hn fun k hk => ih k ?_ ((h.mem _ _).mp hk).1
      have h1 := h.dep_kid ((h.mem _ _).mp hk).2
      have h2 := dep_le (up := up) (names := names) k
      omega
  exact fun n hn => this _ n (Nat.le_refl _) hn
end
end G
/-! turns that end with two cells; a call handed an object in a variable -/
open PySem PySem.Spec PyProof.Rows L2 TL
namespace G
end G
/-! lines gone through one by one: the path so far, the last answer of each elder -/
open PySem PySem.Spec PyProof.Rows L2 TL
namespace G
def stepC (s : List Str × List (Str × Str)) (l : Nat × Str) : List Str × List (Str × Str) := (s.1.take l.1 ++ [l.2], ptA s.2 (s.1.getD (l.1 - 1) default) l.2)
def OkC (names : List Str) (up : Str → Option Str) (lt : Str → Str → Prop) (s : List Str × List (Str × Str)) (l : Nat × Str) : Prop :=
  ∃ e, 1 ≤ l.1 ∧ l.1 ≤ s.1.length ∧ s.1[l.1 - 1]? = some e ∧ up l.2 = some e ∧ l.2 ∈ names ∧ ∀ y, lkA s.2 e = some y → lt y l.2
def ChkC (names : List Str) (up : Str → Option Str) (lt : Str → Str → Prop) : List Str × List (Str × Str) → List (Nat × Str) → Prop
  | _, [] => True
  | s, l :: ls => OkC names up lt s l ∧ ChkC names up lt (stepC s l) ls
section
variable {names : List Str} {up : Str → Option Str} {kd : Option Str → List Str} {lt : Str → Str → Prop}
theorem ChkC.drop : ∀ {a : List (Nat × Str)} {s : List Str × List (Str × Str)} {j : Nat} {l : Nat × Str}, ChkC names up lt s a → a[j]? = some l → OkC names up lt ((a.take j).foldl stepC s) l
  | [], _, _, _, _, h => by simp at h
  | x :: a, s, 0, l, ⟨h1, _⟩, h => by
    have e : x = l := Option.some.inj (by simpa using h)
    subst e
    exact h1
  | x :: a, s, j + 1, l, ⟨_, h2⟩, h => by
    rw [List.take_succ_cons, List.foldl_cons]
    exact ChkC.drop h2 (by simpa using h)
end
end G
/-! errors: a statement, an expression, a call that surely raises; what a try does then -/
open PySem PySem.Spec PyProof.Rows L2 TL
namespace G
/-- an error: its class and, where its class keeps one, its own field -/
abbrev ER := Value × Option (Str × D)
def ErOk (K : PySem.W.Frag) (B : Hp) (er : Option (Str × D)) (d : Option Addr) : Prop := match er with
  | none => d = none
  | some p => ∃ (d0 : Addr) (v : V), d = some d0 ∧ B d0 = some (.xd [(p.1, v)]) ∧ Rp K B p.2 v
theorem ErOk.mono {K : PySem.W.Frag} {B B' : Hp} (e : Same B B') {er : Option (Str × D)} {d : Option Addr} (h : ErOk K B er d) : ErOk K B' er d := by
  cases er with
  | none => exact h
  | some p =>
    obtain ⟨d0, v, h1, h2, h3⟩ := h
    exact ⟨d0, v, h1, e _ _ h2, h3.mono e⟩
/-- what a wish for errors takes -/
def Lk (K : PySem.W.Frag) (F B : Hp) (A : List Addr) (W : WX) (Ψ : ER → G.Env → List Cell → Prop) : Prop :=
  ∀ (r : ER) (e' : G.Env) (cs' : List Cell) (B' H' : Hp) (A' : List Addr) (σ' : L2.St) (d : Option Addr), Ψ r e' cs' → Same B B' → G.Pre A A' → G.St K F B' H' A' e' cs' σ' → ErOk K B' r.2 d → W r.1 d σ' H'
section
variable {K : PySem.W.Frag} {F B B' H H' : Hp} {A A' : List Addr} {W : WX} {Ψ Ψ' : ER → G.Env → List Cell → Prop} {env : G.Env} {cs : List Cell} {te ta tb td ty : TE} {t u : TS} {tt : TT} {g : TG} {tx : TA}
theorem Lk.on (l : Lk K F B A W Ψ) (e : Same B B') (p : G.Pre A A') : Lk K F B' A' W Ψ := fun r e' cs' B2 H2 A2 σ' d f e2 p2 s q => l r e' cs' B2 H2 A2 σ' d f (e.trans e2) (p.trans p2) s q
theorem Lk.imp (l : Lk K F B A W Ψ') (h : ∀ r e c, Ψ r e c → Ψ' r e c) : Lk K F B A W Ψ := fun r e' cs' B2 H2 A2 σ' d f => l r e' cs' B2 H2 A2 σ' d (h _ _ _ f)
def wrS (K : PySem.W.Frag) (W : WX) (t : TS) (env : G.Env) (cs : List Cell) (Ψ : ER → G.Env → List Cell → Prop) : Prop := ∀ (F B H : Hp) (A : List Addr) (σ : L2.St), G.St K F B H A env cs σ → Lk K F B A W Ψ → ∀ D : Ends, t D σ H
def wrE (K : PySem.W.Frag) (W : WX) (te : TE) (env : G.Env) (cs : List Cell) (Ψ : ER → G.Env → List Cell → Prop) : Prop := ∀ (F B H : Hp) (A : List Addr) (σ : L2.St), G.St K F B H A env cs σ → Lk K F B A W Ψ → ∀ Q : VK, te σ H Q
theorem wrS.imp (h : wrS K W t env cs Ψ) (i : ∀ r e c, Ψ r e c → Ψ' r e c) : wrS K W t env cs Ψ' := fun F B H A σ s l D => h F B H A σ s (l.imp i) D
theorem wrE.imp (h : wrE K W te env cs Ψ) (i : ∀ r e c, Ψ r e c → Ψ' r e c) : wrE K W te env cs Ψ' := fun F B H A σ s l D => h F B H A σ s (l.imp i) D
/-! ### statements -/
/-! ### expressions -/
end
/-! ### a def that may raise: what it does of its inputs; which error it raises of others -/
section
variable {K : PySem.W.Frag} {W : WX} {Ψ : ER → G.Env → List Cell → Prop} {env : G.Env} {cs : List Cell} {tx : TA} {Φ : Vl → List Cell → Prop}
/-! the same def, called with inputs of which it raises nothing: the arguments' readings are monotone -/
/-! ### try -/
variable {t : TS} {a : AE} {i : Nat}
theorem env_none {B : Hp} {A : List Addr} {e : G.Env} {σ : L2.St} {o : Option V} (i : Nat) (h : RpOs K B A e σ) : RpOs K B A (e.set i none) (σ.set i o) := Paired.set' (show RpO K B A none o from trivial) i h
theorem PoN.none {F B : Hp} {A : List Addr} {Φ : G.Env → List Cell → Prop} {N : L2.St → Hp → Prop} {i : Nat} (q : G.PoN K F B A Φ N) : G.PoN K F B A (fun e c => Φ (e.set i Option.none) c) (fun σ H => N (σ.set i Option.none) H) :=
  fun env' cs' σ' B' H' A' f e p s => q _ cs' _ B' H' A' f e p (s.withEnv (env_none i s.sl))
end
end G
/-! list(enumerate(xs)): each pair stays alive, so none is used again -/
namespace G
open PySem PySem.Spec PyProof.Rows L2 TL
section
variable {prog : Program} {w : World} {A : Around} {E : Value → Shared → Prop} {s : Shared}
/-- an enumerate object whose last pair is still there -/
def EnO (h : Heap) (en it : Addr) (c : Int) : Prop := ∃ (T : Addr) (o : Obj) (b : Bool) (z : Value), h.get? en = some { cls := .type "enumerate", dict := none, data := .fields #[rawInt (T : Nat), .bool b, .ref it, rawInt c, .none, z], slots := #[] } ∧ h.get? T = some o ∧ T ≠ en ∧ T ≠ it
def EnA (h : Heap) (en it : Addr) (i : Nat) : Prop := (i = 0 ∧ ∃ old, IsEnum h en it ((i : Nat) : Int) old) ∨ EnO h en it i
theorem EnA.keep {h h' : Heap} {en it : Addr} {i : Nat} (q : EnA h en it i) (k : ∀ b o, h.get? b = some o → ∃ o', h'.get? b = some o') (ke : h'.get? en = h.get? en) : EnA h' en it i := by
  rcases q with ⟨e, old, q⟩ | ⟨T, o, b, z, q, hT, n1, n2⟩
  · exact .inl ⟨e, old, ke.trans q⟩
  · obtain ⟨o', ho⟩ := k T o hT
    exact .inr ⟨T, o', b, z, ke.trans q, ho, n1, n2⟩
end
/-! ### the list is filled -/
end G
namespace G
open PySem PySem.Spec PyProof.Rows L2 TL
end G
/-! dicts keyed by tuples, held fast while they are walked through; one of two readings -/
namespace G
open PySem PySem.Spec PyProof.Rows L2 TL
/-! ### one of two readings of an expression -/
def tOrE (t u : TE) : TE := fun σ H Q => t σ H Q ∨ u σ H Q
theorem pe_or {X : Cx} {e : Expr} {t u : TE} (h1 : PE X e t) (h2 : PE X e u) : PE X e (tOrE t u) := ⟨fun pins s σ H Q I h => h.elim (h1.run pins s σ H Q I) (h2.run pins s σ H Q I)⟩
section
variable {K : PySem.W.Frag} {env : G.Env} {cs : List Cell} {t u : TE} {Φ : Vl → List Cell → Prop}
theorem we_orL (h : wpE K t env cs Φ) : wpE K (tOrE t u) env cs Φ := fun F B H A σ s Q q => .inl (h F B H A σ s Q q)
theorem we_orR (h : wpE K u env cs Φ) : wpE K (tOrE t u) env cs Φ := fun F B H A σ s Q q => .inr (h F B H A σ s Q q)
end
/-! ### the walk -/
section
variable {X : Cx} {pins : List (Addr × Obj)} {σ : L2.St} {H : Hp} {s : Shared} {d : Addr} {o : Obj} {xs : KX}
theorem kf_raw (I : Inv X pins σ H s) (h : H d = some (.frz o (kdO X.w d xs))) : (d == sysModules) = false ∧ s.heap.get? d = some o ∧ o.ExactDict ∧ ∃ (es : Array DictEntry) (ep : Nat), o.data = .dict es ep ∧ es.size = xs.length ∧ s.heap.DictRaw d es ep ∧ Paired (kdE X.w) xs es.toList := by
  obtain ⟨hg, ⟨z, lo, o', es, ep, h1, h2, h3, h4, h5⟩, _, _⟩ := (show s.heap.get? d = some o ∧ ObjOk X.prog X.w H s.heap d (kdO X.w d xs) from I.hok d _ h)
  rw [hg] at h1
  cases h1
  exact ⟨lo, hg, h2, es, ep, h3, by rw [← Array.length_toList, Paired.length h4], ⟨o, hg, h2, h3⟩, h4⟩
end
/-- the i-th entry, in a new pair -/
def ItY (w : World) (d : Addr) (o : Obj) (n : Nat) : It :=
  ⟨fun i H => (∃ xs, H d = some (.frz o (kdO w d xs)) ∧ xs.length = n) ∧ i < n, fun i H x H' => ∃ T y v, x = .ref T ∧ H T = none ∧ H' = upd H T (.tup [y, v]) ∧ ∀ xs, H d = some (.frz o (kdO w d xs)) → ∃ q, xs[i]? = some q ∧ q.1.2 = y ∧ q.2 = v,
    fun i H => (∃ xs, H d = some (.frz o (kdO w d xs)) ∧ xs.length = n) ∧ n ≤ i⟩
def ItYk (w : World) (d : Addr) (o : Obj) (n : Nat) : It :=
  ⟨fun i H => (∃ xs, H d = some (.frz o (kdO w d xs)) ∧ xs.length = n) ∧ i < n, fun i H x H' => H' = H ∧ ∀ xs, H d = some (.frz o (kdO w d xs)) → ∃ q, xs[i]? = some q ∧ q.1.2 = x,
    fun i H => (∃ xs, H d = some (.frz o (kdO w d xs)) ∧ xs.length = n) ∧ n ≤ i⟩
section
variable {P : Program} {w : World} {K : PySem.W.Frag} {d : Addr} {o : Obj} {es : Array DictEntry} {ep n : Nat} {tg : Expr}
theorem turn_itemsY {elts : List Expr} {kk : Nat} {tpos : Pos} (it : Addr) (hod : o.data = .dict es ep) :
    Turn P w K (.Tuple elts kk tpos) (ItY w d o n) [it] it (fun i h => ∃ ok ov, IsItemIter h it d i n ep ok ov) where
  mem := by simp
  obj := fun i h st b hb => by
    have e : b = it := by simpa using hb
    subst e
    obtain ⟨ok, ov, e⟩ := st
    exact ⟨_, e, fun v z => nomatch z⟩
  keep := fun i h h' st k => let ⟨ok, ov, e⟩ := st; ⟨ok, ov, k it (by simp) _ e⟩
  item := by
    intro X hP hw hK hc i pins s σ H E I hf st hg
    subst hP hw hK
    obtain ⟨⟨xs, hd, hn⟩, hi⟩ := hg
    obtain ⟨lo, hgd, hx, es', ep', hdt, hsz, hraw, hp⟩ := kf_raw I hd
    obtain ⟨rfl, rfl⟩ := dict_ep hod hdt
    have hi2 : i < es'.size := by rw [hsz, hn]; exact hi
    obtain ⟨ok, ov, he⟩ := st
    have hlt : it < s.heap.objs.size := Heap.lt_size he
    rw [← hn, ← hsz] at he
    have rel : ∀ (ys : KX) (q : (D × V) × V), H d = some (.frz o (kdO X.w d ys)) → ys[i]? = some q → RelV q.1.2 es'[i].key ∧ RelV q.2 es'[i].val := fun ys q hy hq => by
      obtain ⟨_, _, _, es2, ep2, hdt2, _, _, hp2⟩ := kf_raw I hy
      obtain ⟨rfl, _⟩ := dict_ep hod hdt2
      obtain ⟨en, g1, g2⟩ := Paired.get' hp2 hq
      rw [Array.getElem?_toList, Array.getElem?_eq_getElem hi2] at g1
      cases g1
      exact ⟨g2.1, g2.2.2⟩
    obtain ⟨q, hq⟩ : ∃ q, xs[i]? = some q := ⟨xs[i]'(by omega), List.getElem?_eq_getElem _⟩
    obtain ⟨r1, r2⟩ := rel xs q hd hq
    refine wpAny_pyNext_items_item_raw he hraw hi2 fun h' ho hT hz hk => ?_
    refine ⟨_, rfl, wpAny_letOwnedTupleGo_items (s := { s with heap := h' }) ho fun h'' he' sb => ?_⟩
    have hT2 : h''.get? s.heap.objs.size = some { cls := .type "tuple", data := .seq #[es'[i].key, es'[i].val] } := (sb.2 _ (Nat.ne_of_gt hlt)).trans hT
    have new : ObjOk X.prog X.w (upd H s.heap.objs.size (.tup [q.1.2, q.2])) h'' s.heap.objs.size (.tup [q.1.2, q.2]) :=
      ⟨by show 2 ≤ sizeLine; decide, [es'[i].key, es'[i].val], .cons r1 (.cons r2 .nil), ⟨_, hT2, rfl, _, rfl⟩⟩
    have I1 : Inv X pins σ (upd H s.heap.objs.size (.tup [q.1.2, q.2])) { s with heap := h'' } :=
      I.turnedNew (t' := s.toks) (ch := [it]) (fun b ob hb e => (sb.2 b (by simpa using hb)).trans (hk b ob (by simpa using hb) e)) hf (Nat.le_refl _) new
    refine ⟨.ref s.heap.objs.size, _, I1, rfl, ⟨_, q.1.2, q.2, rfl, I.hok.fresh (Nat.le_refl _), rfl, fun ys hy => ?_⟩, ⟨es'[i].key, es'[i].val, ?_⟩, fun b hb => ?_⟩
    · obtain ⟨_, _, _, es2, ep2, hdt2, hsz2, _, hp2⟩ := kf_raw I hy
      obtain ⟨rfl, _⟩ := dict_ep hod hdt2
      have hq2 : ys[i]? = some (ys[i]'(by omega)) := List.getElem?_eq_getElem _
      obtain ⟨g1, g2⟩ := rel ys _ hy hq2
      exact ⟨_, hq2, g1.inj r1, g2.inj r2⟩
    · rw [← hn, ← hsz]; exact he'
    · have e : b = it := by simpa using hb
      rw [e, upd_ne (Nat.ne_of_lt hlt)]
      exact (hf it (by simp)).1
  done := by
    intro X hP hw hK hc i pins s σ H E I hf st hg
    subst hP hw hK
    obtain ⟨⟨xs, hd, hn⟩, hi⟩ := hg
    obtain ⟨f0, f1, f2, f3, f4, f5⟩ := hf it (by simp)
    obtain ⟨lo, hgd, hx, es', ep', hdt, hsz, hraw, hp⟩ := kf_raw I hd
    obtain ⟨rfl, rfl⟩ := dict_ep hod hdt
    obtain ⟨ok, ov, he⟩ := st
    rw [← hn, ← hsz] at he
    exact wpAny_pyNext_items_end_raw (I.ok.hd hc) he hraw (by rw [hsz, hn]; exact hi) fun h' eb => ⟨rfl, I.turned (t' := s.toks) (fun b ob hb e => eb b ob hb e) f0 f1 f3 f4 f5⟩
  self := fun A i s Q E st h => let ⟨_, _, e⟩ := st; PySem.W.kcp_self e h
theorem turn_keysY (it : Addr) (hod : o.data = .dict es ep) : Turn P w K tg (ItYk w d o n) [it] it (fun i h => h.IsKeyIter it d i n ep) where
  mem := by simp
  obj := fun i h st b hb => by
    have e : b = it := by simpa using hb
    subst e
    obtain ⟨oi, e, c, dd⟩ := st
    exact ⟨oi, e, fun v z => by rw [dd] at z; cases z⟩
  keep := fun i h h' st k => st.at fun oi e => k it (by simp) oi e
  item := by
    intro X hP hw hK hc i pins s σ H E I hf st hg
    subst hP hw hK
    obtain ⟨⟨xs, hd, hn⟩, hi⟩ := hg
    obtain ⟨f0, f1, f2, f3, f4, f5⟩ := hf it (by simp)
    obtain ⟨lo, hgd, hx, es', ep', hdt, hsz, hraw, hp⟩ := kf_raw I hd
    obtain ⟨rfl, rfl⟩ := dict_ep hod hdt
    have hi2 : i < es'.size := by rw [hsz, hn]; exact hi
    have rel : ∀ (ys : KX) (q : (D × V) × V), H d = some (.frz o (kdO X.w d ys)) → ys[i]? = some q → RelV q.1.2 es'[i].key := fun ys q hy hq => by
      obtain ⟨_, _, _, es2, ep2, hdt2, _, _, hp2⟩ := kf_raw I hy
      obtain ⟨rfl, _⟩ := dict_ep hod hdt2
      obtain ⟨en, g1, g2⟩ := Paired.get' hp2 hq
      rw [Array.getElem?_toList, Array.getElem?_eq_getElem hi2] at g1
      cases g1
      exact g2.1
    obtain ⟨q, hq⟩ : ∃ q, xs[i]? = some q := ⟨xs[i]'(by omega), List.getElem?_eq_getElem _⟩
    have r1 := rel xs q hd hq
    refine next_key_item st hgd hdt (hsz.trans hn) (Array.getElem?_eq_getElem hi2) fun h' st' sb => ?_
    have I1 : Inv X pins σ H { s with heap := h' } := I.turned (t' := s.toks) (fun b ob hb e => (sb.2 b hb).trans e) f0 f1 f3 f4 f5
    obtain ⟨oi, e, c, dd⟩ := id st'
    refine ⟨_, rfl, go_of (s := { s with heap := h' }) e c dd (by decide) ⟨q.1.2, H, I1, r1, ⟨rfl, fun ys hy => ?_⟩, st', fun b hb => (hf b hb).1⟩⟩
    obtain ⟨_, _, _, es2, ep2, hdt2, hsz2, _, hp2⟩ := kf_raw I hy
    obtain ⟨rfl, _⟩ := dict_ep hod hdt2
    have hq2 : ys[i]? = some (ys[i]'(by omega)) := List.getElem?_eq_getElem _
    exact ⟨_, hq2, (rel ys _ hy hq2).inj r1⟩
  done := by
    intro X hP hw hK hc i pins s σ H E I hf st hg
    subst hP hw hK
    obtain ⟨⟨xs, hd, hn⟩, hi⟩ := hg
    obtain ⟨f0, f1, f2, f3, f4, f5⟩ := hf it (by simp)
    obtain ⟨lo, hgd, hx, es', ep', hdt, hsz, hraw, hp⟩ := kf_raw I hd
    obtain ⟨rfl, rfl⟩ := dict_ep hod hdt
    exact next_key_end (I.ok.hd hc) st hgd hdt (hsz.trans hn) hi fun h' eb => ⟨rfl, I.turned (t' := s.toks) (fun b ob hb e => eb b ob hb e) f0 f1 f3 f4 f5⟩
  self := fun A i s Q E st h => by
    refine wpAny_pyIter_slot st.typeIs F.slot_dict_keyiterator_iter (wpAny_call_entry F.slot_dict_keyiterator_iter st.typeIs F.entry_dict_keyiterator_iter ?_ (F.args_dict_keyiterator_iter_1 _))
    show wpAny _ _ (ret (.ref it)) _ _ s
    exact wpAny_pure ⟨_, rfl, "dict_keyiterator", _, st.typeIs, F.slot_dict_keyiterator_next.lookup, h⟩
end
def iItemsY (w : World) (td : TE) : TI := fun σ H R => td σ H fun x H1 => ∃ d o xs, x = .ref d ∧ H1 d = some (.frz o (kdO w d xs)) ∧ R (ItY w d o xs.length) H1
def iKeysY (w : World) (td : TE) : TI := fun σ H R => td σ H fun x H1 => ∃ d o xs, x = .ref d ∧ H1 d = some (.frz o (kdO w d xs)) ∧ R (ItYk w d o xs.length) H1
section
variable {X : Cx} {w : World} {tg e : Expr} {td : TE} {apos cpos : Pos}
theorem pi_keysY (hw : X.w = w) (he : PE X e td) : PI X tg e (iKeysY w td) := by
  subst hw
  refine ⟨fun pins s σ H R I h => ?_⟩
  refine thn (he.run pins s σ H _ I h) fun u s1 ⟨x, H1, I1, rx, d, o, xs, ex, hd, q⟩ => ?_
  subst ex
  obtain rfl : u = Value.ref d := rx
  obtain ⟨lo, hgd, hx, es, ep, hdt, hsz, hraw, hp⟩ := kf_raw I1 hd
  refine iter_keys lo hgd hx hdt (pi_one (tk := s1.toks) I1 _ (turn_keysY _ hdt) ⟨_, Heap.get?_push_size _ rfl, rfl, ?_⟩ q)
  rw [hsz] <;> rfl
theorem pi_itemsY {elts : List Expr} {kk : Nat} {tpos : Pos} (hw : X.w = w) (he : PE X e td) (hbase : attributeBase e "items" X.env (eval e X.env) = eval e X.env := by rfl) (hline : (apos.endLine == cpos.line) = true := by rfl) :
    PI X (.Tuple elts kk tpos) (.Call (.Attribute e "items" apos) [] [] cpos) (iItemsY w td) := by
  subst hw
  refine ⟨fun pins s σ H R I h => ?_⟩
  refine wpAny_Call_method (T := "dict") (id := "dict.items") hbase rfl hline F.plainAttrs_dict F.slot_dict_items F.type_dict_items (thn (he.run pins s σ H _ I h) fun u s1 ⟨x, H1, I1, rx, d, o, xs, ex, hd, q⟩ => ?_)
  subst ex
  obtain rfl : u = Value.ref d := rx
  obtain ⟨lo, hgd, hx, es, ep, hdt, hsz, hraw, hp⟩ := kf_raw I1 hd
  refine ⟨hraw.typeIs, fun a ea => (by cases ea; exact ⟨o, hgd, hx.2.1⟩), ?_⟩
  have I2 : Inv X pins σ H1 { s1 with heap := s1.heap.push { cls := .type "dict_items", data := .fields #[.ref d] } } := I1.kept (t' := s1.toks) fun b ob q => Heap.get?_push_of_some _ q
  have fin : wpAny (model X.prog X.w) X.A (pyIter (.ref s1.heap.objs.size)) (PIE X pins σ (.Tuple elts kk tpos) R) X.xe { s1 with heap := s1.heap.push { cls := .type "dict_items", data := .fields #[.ref d] } } := by
    refine wpAny_pyIter_items_raw (d := d) (es := es) (ep := ep) ⟨_, Heap.get?_push_size _ rfl, rfl, rfl⟩ ⟨o, Heap.get?_push_of_some _ hgd, hx, hdt⟩ (pi_one (tk := s1.toks) I2 _ (turn_itemsY _ hdt) ⟨.none, .none, ?_⟩ q)
    rw [← hsz]
    exact Heap.get?_push_size _ rfl
  show wpAny _ _ (callWith cpos (.builtin "dict.items") [.ref d] [] []) _ X.xe s1
  exact method_meetsIn F.slot_dict_items F.entry_dict_items rfl (PySem.evalArgs_none ⟨rfl, hraw.typeIs, F.args_dict_items_1 _, _, DT.meetsItems (es := es) (ep := ep) lo, ⟨o, hgd, hx, hdt⟩, fin⟩)
end
/-! ### by values -/
def kdFx (w : World) (o : Obj) (a : Addr) (ds : List D) (ws : List (V × V)) : HO := .frz o (kdX w a ds ws)
/-- a dict keyed by tuples, held fast -/
def kdF (w : World) (o : Obj) (kv : KyD) : Cell := .dcx (kdFx w o) kv
section
variable {K : PySem.W.Frag} {w : World} {env : G.Env} {cs : List Cell} {Φ : Vl → List Cell → Prop} {te td ty : TE} {B H : Hp} {A : List Addr}
theorem St.kdF {F : Hp} {σ : L2.St} {j : Nat} {kv : KyD} {b : Addr} {o : Obj} (s : G.St K F B H A env cs σ) (hb : A[j]? = some b) (hc : cs[j]? = some (kdF w o kv)) : ∃ xs, H b = some (.frz o (kdO w b xs)) ∧ KdR K B A kv xs := by
  obtain ⟨ws, h1, h2⟩ := s.ch j b _ hb hc
  exact ⟨_, h1, kd_zip h2⟩
theorem we_frzK (h : wpE K te env cs fun x c => ∃ (k : Nat) (kv : KyD), x = .cel k ∧ c[k]? = some (kdC w kv) ∧ ∀ od, Φ (.cel k) (c.set k (kdF w od kv))) : wpE K (tFrzE te) env cs Φ := fun F B H A σ s Q q =>
  h F B H A σ s _ fun x c v B1 H1 A1 ⟨k, kv, ex, hc, f⟩ e1 p1 s1 r1 => by
    subst ex
    obtain ⟨b, hb, rfl⟩ := r1
    obtain ⟨ws, h1, h2⟩ := s1.ch k b _ hb hc
    refine ⟨b, _, rfl, h1, trivial, fun od => ?_⟩
    exact q _ _ _ B1 _ A1 (f od) e1 p1 (s1.put hb (c := kdF w od kv) ⟨ws, upd_same, h2⟩) ⟨b, hb, rfl⟩
theorem KdR.at_ {kv : KyD} {xs : KX} {i : Nat} {p : D × Vl} (h : KdR K B A kv xs) (e : kv[i]? = some p) : ∃ q, xs[i]? = some q ∧ Rp K B p.1 q.1.2 ∧ RpV K B A p.2 q.2 := by
  obtain ⟨q, hq, r⟩ := Paired.get' h e
  exact ⟨q, hq, r.2⟩
theorem wi_itemsY {Φ : List D → (List Cell → Prop) → List Cell → Prop} (h : wpE K td env cs fun x c => ∃ (k : Nat) (od : Obj) (ds : List (D × D)), x = .cel k ∧ c[k]? = some (kdF w od (ds.map fun p => (p.1, .dat p.2))) ∧ Φ (ds.map fun p => .tuple [p.1, p.2]) (fun c2 => c2[k]? = some (kdF w od (ds.map fun p => (p.1, .dat p.2)))) c) : wpI K (iItemsY w td) env cs Φ := fun F B H A σ s R kk =>
  h F B H A σ s _ fun x c v B1 H1 A1 ⟨k, od, ds, ex, hc, f⟩ e1 p1 s1 r1 => by
    subst ex
    obtain ⟨b, hb, rfl⟩ := r1
    obtain ⟨xs, hH, hR⟩ := s1.kdF hb hc
    have hl : xs.length = (ds.map fun p => PyData.tuple [p.1, p.2]).length := by rw [← Paired.length hR, List.length_map, List.length_map]
    refine ⟨b, od, xs, rfl, hH, kk _ _ c _ B1 H1 A1 f e1 p1 s1 ?_⟩
    refine ⟨fun H => ∃ ys, H b = some (.frz od (kdO w b ys)) ∧ ys.length = xs.length, fun i H x H' => ∃ T y v, x = .ref T ∧ H T = none ∧ H' = upd H T (.tup [y, v]) ∧ ∀ ys, H b = some (.frz od (kdO w b ys)) → ∃ q, ys[i]? = some q ∧ q.1.2 = y ∧ q.2 = v, ?_, fun F2 B2 H2 A2 env2 cs2 σ2 e p s hk => ?_, ?_⟩
    · rw [← hl]
      exact ⟨fun i H hi g => ⟨g, hi⟩, fun H g => ⟨g, Nat.le_refl _⟩, fun i H x H' hi g y => y⟩
    · obtain ⟨ys, g1, g2⟩ := s.kdF (p k b hb) hk
      exact ⟨ys, g1, by rw [← Paired.length g2, Paired.length hR]⟩
    · rintro i H2 x H3 hi ⟨T, y, v, rfl, hT, rfl, hy⟩ F2 B2 A2 env2 cs2 σ2 e p s hk
      obtain ⟨ys, g1, g2⟩ := s.kdF (p k b hb) hk
      obtain ⟨q, hq, rfl, rfl⟩ := hy ys g1
      have hi2 : i < ds.length := by simpa using hi
      obtain ⟨q2, hq2, r1, r2⟩ := g2.at_ (i := i) (p := (ds[i].1, .dat ds[i].2)) (by rw [List.getElem?_map, List.getElem?_eq_getElem hi2]; rfl)
      rw [hq] at hq2
      cases hq2
      obtain ⟨B3, e4, s3, hr4⟩ := s.pair hT r1 (show Rp K B2 ds[i].2 q.2 from r2)
      exact ⟨_, _, e4, s3, by rw [List.getElem?_map, List.getElem?_eq_getElem hi2]; rfl, hr4⟩
theorem wi_keysY {Φ : List D → (List Cell → Prop) → List Cell → Prop} (h : wpE K td env cs fun x c => ∃ (k : Nat) (od : Obj) (kv : KyD), x = .cel k ∧ c[k]? = some (kdF w od kv) ∧ Φ (kv.map (·.1)) (fun c2 => c2[k]? = some (kdF w od kv)) c) : wpI K (iKeysY w td) env cs Φ := fun F B H A σ s R kk =>
  h F B H A σ s _ fun x c v B1 H1 A1 ⟨k, od, kv, ex, hc, f⟩ e1 p1 s1 r1 => by
    subst ex
    obtain ⟨b, hb, rfl⟩ := r1
    obtain ⟨xs, hH, hR⟩ := s1.kdF hb hc
    have hl : xs.length = (kv.map (·.1)).length := by rw [← Paired.length hR, List.length_map]
    refine ⟨b, od, xs, rfl, hH, kk _ _ c _ B1 H1 A1 f e1 p1 s1 ?_⟩
    refine ⟨fun H => ∃ ys, H b = some (.frz od (kdO w b ys)) ∧ ys.length = xs.length, fun i H x H' => H' = H ∧ ∀ ys, H b = some (.frz od (kdO w b ys)) → ∃ q, ys[i]? = some q ∧ q.1.2 = x, ?_, fun F2 B2 H2 A2 env2 cs2 σ2 e p s hk => ?_, ?_⟩
    · rw [← hl]
      exact ⟨fun i H hi g => ⟨g, hi⟩, fun H g => ⟨g, Nat.le_refl _⟩, fun i H x H' hi g y => y⟩
    · obtain ⟨ys, g1, g2⟩ := s.kdF (p k b hb) hk
      exact ⟨ys, g1, by rw [← Paired.length g2, Paired.length hR]⟩
    · rintro i H2 x H3 hi ⟨rfl, hy⟩ F2 B2 A2 env2 cs2 σ2 e p s hk
      obtain ⟨ys, g1, g2⟩ := s.kdF (p k b hb) hk
      obtain ⟨q, hq, rfl⟩ := hy ys g1
      have hi2 : i < kv.length := by simpa using hi
      obtain ⟨q2, hq2, r1, r2⟩ := g2.at_ (i := i) (List.getElem?_eq_getElem hi2)
      rw [hq] at hq2
      cases hq2
      exact ⟨B2, kv[i].1, Same.refl B2, s, by rw [List.getElem?_map, List.getElem?_eq_getElem hi2]; rfl, r1⟩
end
/-! ### d[k] of a dict held fast -/
def tKGetF (K : PySem.W.Frag) (w : World) (td ty : TE) : TE := fun σ H Q => td σ H fun x H1 => ty σ H1 fun y H2 => ∃ (a : Addr) (o : Obj) (xs : KX) (d : D) (v : V), x = .ref a ∧ H2 a = some (.frz o (kdO w a xs)) ∧ KdKeys K H2 xs ∧ KyOk d ∧ Rp K H2 d y ∧ valY xs d = some v ∧ Q v H2
section
variable {X : Cx} {K : PySem.W.Frag} {w : World} {o i : Expr} {pos : Pos} {td ty : TE}
theorem kf_at {pins : List (Addr × Obj)} {σ : L2.St} {H : Hp} {s : Shared} {a : Addr} {xs : KX} {od : Obj} (I : Inv X pins σ H s) (e : H a = some (.frz od (kdO X.w a xs))) (hk : KdKeys X.K H xs) : xs.length ≤ sizeLine ∧ (a == sysModules) = false ∧
    ∃ ys : List (NestedKey × Addr × Value), s.heap.DictOfH (nestedKind X.prog X.w) a ys ∧ Paired kdY xs ys := by
  obtain ⟨_, ⟨z, hd, o, es, ep, h1, h2, h3, h4, h5⟩, _, _⟩ := (show s.heap.get? a = some od ∧ ObjOk X.prog X.w H s.heap a (kdO X.w a xs) from I.hok a _ e)
  obtain ⟨ys, g1, g2, g3⟩ := kd_ys I h4 hk
  exact ⟨z, hd, ys, ⟨o, es, ep, h1, h2, h3, g1, g3, by rw [kdY_keys g2]; exact h5⟩, g2⟩
theorem pe_kgetF (hK : X.K = K) (hw : X.w = w) (hu : X.A.units + 64 < cLine) (ho : PE X o td) (hi : PE X i ty) (hs : NoSl i) : PE X (.Subscript o i pos) (tKGetF K w td ty) := by
  subst hK hw
  refine ⟨fun pins s σ H Q I h => ?_⟩
  refine subD_of PySem.F.slot_dict_getitem.lookup hs (thn (ho.run pins s σ H _ I h) fun u s1 ⟨x, H1, I1, rx, q1⟩ => thn (hi.run pins s1 σ H1 _ I1 q1) fun iv s2 ⟨y, H2, I2, ry, a, od, xs, d, v, ex, ha, hks, hk, hr, hl, q2⟩ => ?_)
  subst ex
  obtain rfl : u = Value.ref a := rx
  obtain ⟨b, rfl⟩ := ky_ref hk hr
  obtain rfl : iv = Value.ref b := ry
  obtain ⟨z, hd, ys, hy, g⟩ := kf_at I2 ha hks
  obtain ⟨w', hw', rw'⟩ := RelO.some_of (v := v) (o := (atKey ys (kyN d)).map (·.2)) (by rw [← hl]; exact kdY_val g)
  obtain ⟨p, hp, hp2⟩ := Option.map_eq_some_iff.mp hw'
  refine ⟨hy.typeIs, wpAny_getItem_heap (show X.A.in1.units + 8 < cLine by show X.A.units + 1 + 8 < cLine; omega) (ky_is I2 hk hr) hy hp ?_⟩
  rw [hp2]
  exact ⟨v, H2, I2.tok _, rw', q2⟩
end
theorem we_kgetF {K : PySem.W.Frag} {w : World} {env : G.Env} {cs : List Cell} {Φ : Vl → List Cell → Prop} {td ty : TE} (h : wpE K td env cs fun x c1 => wpE K ty env c1 fun y c2 => ∃ (j : Nat) (od : Obj) (kv : KyD) (d : D) (u : Vl), x = .cel j ∧ y = .dat d ∧ c2[j]? = some (kdF w od kv) ∧ (∀ p, p ∈ kv → KyOk p.1) ∧ KyOk d ∧ lkY kv d = some u ∧ Φ u c2) : wpE K (tKGetF K w td ty) env cs Φ := fun F B H A σ s Q q =>
  h F B H A σ s _ fun x c1 v1 B1 H1 A1 f e1 p1 s1 r1 => f F B1 H1 A1 σ s1 _ fun y c2 v2 B2 H2 A2 ⟨j, od, kv, d, u, ex, ey, hc, hks, hk, hl, g⟩ e2 p2 s2 r2 => by
    subst ex ey
    obtain ⟨b, hb, rfl⟩ := r1.mono e2 p2
    obtain ⟨xs, hH, hR⟩ := s2.kdF hb hc
    have hd : Rp K B2 d v2 := r2
    rcases hR.get (d := d) with ⟨h1, _⟩ | ⟨u', v, h1, h2, h3⟩
    · rw [hl] at h1
      cases h1
    · rw [hl] at h1
      cases h1
      exact ⟨b, od, xs, d, v, rfl, hH, hR.keys s2.eb hks, hk, hd.mono s2.eb, h2, (q.on (e1.trans e2) (p1.trans p2)).now s2 h3 g⟩
end G
/-! calls that give back a cell that was handed on, or new cells that hold one another -/
open PySem PySem.Spec PyProof.Rows L2 TL
namespace G
section
variable {K : PySem.W.Frag} {F B B' H H' : Hp} {A A' : List Addr} {env : G.Env} {cs : List Cell} {σ : L2.St} {Φ : Vl → List Cell → Prop} {ta : TA}
theorem St.join0 {H0 : Hp} {cs' : List Cell} {env' : G.Env} {σ' : L2.St} (s : G.St K F B H A env cs σ) (s' : G.St K (rim A [] H0 F) B' H' A' env' cs' σ') (h0 : ∀ a, a ∈ A → H0 a = H a) (e : Same B B') :
    G.St K F B' H' (A ++ A') env (cs ++ cs'.map (shC cs.length)) σ := by
  have hA : ∀ a, a ∈ A → rim A [] H0 F a = H a := fun a ha => by
    unfold rim
    rw [if_pos ⟨ha, fun z => nomatch z⟩]
    exact h0 a ha
  have hF : ∀ b u, F b = some u → rim A [] H0 F b = some u := fun b u q => by
    unfold rim
    rw [if_neg]
    · exact q
    · rintro ⟨h1, h2⟩
      obtain ⟨k, hk⟩ := List.getElem?_of_mem h1
      rw [(s.ca k b hk).2] at q
      cases q
  have hH : ∀ a, a ∈ A → ∃ o, H a = some o := fun a ha => by
    obtain ⟨k, hk⟩ := List.getElem?_of_mem ha
    cases q : H a with
    | none => exact absurd q (s.there hk)
    | some o => exact ⟨o, rfl⟩
  have hA' : ∀ a, a ∈ A' → a ∉ A := fun a ha z => by
    obtain ⟨k, hk⟩ := List.getElem?_of_mem ha
    have h2 := (s'.ca k a hk).2
    rw [hA a z] at h2
    obtain ⟨o, ho⟩ := hH a z
    rw [ho] at h2
    cases h2
  have hF' : ∀ a, a ∈ A' → F a = none := fun a ha => by
    cases q : F a with
    | none => rfl
    | some u =>
      obtain ⟨k, hk⟩ := List.getElem?_of_mem ha
      have h2 := (s'.ca k a hk).2
      rw [hF a u q] at h2
      cases h2
  have hk : ∀ (k : Nat) (a : Addr), (A ++ A')[k]? = some a → (k < A.length ∧ A[k]? = some a) ∨ (A.length ≤ k ∧ A'[k - A.length]? = some a) := fun k a q => by
    by_cases hl : k < A.length
    · rw [List.getElem?_append_left hl] at q
      exact .inl ⟨hl, q⟩
    · rw [List.getElem?_append_right (by omega)] at q
      exact .inr ⟨by omega, q⟩
  refine ⟨s'.eb, fun b u q => s'.ef b u (hF b u q), fun b u q => s'.bf b u (hF b u q), ?_, ?_, fun k a q => ?_, fun k a c q r => ?_, RpOs.mono e (Pre.app A A') s.sl, ?_⟩
  · rw [List.length_append, List.length_append, List.length_map, s.la, s'.la]
  · exact List.nodup_append.mpr ⟨s.nd, s'.nd, fun a ha b hb z => hA' b hb (by rw [← z]; exact ha)⟩
  · rcases hk k a q with ⟨_, q⟩ | ⟨_, q⟩
    · have ha := List.mem_of_getElem? q
      obtain ⟨o, ho⟩ := hH a ha
      exact ⟨s'.bf a o (by rw [hA a ha]; exact ho), (s.ca k a q).2⟩
    · exact ⟨(s'.ca _ a q).1, hF' a (List.mem_of_getElem? q)⟩
  · rcases hk k a q with ⟨hl, q⟩ | ⟨hl, q⟩
    · rw [List.getElem?_append_left (by rw [← s.la]; exact hl)] at r
      have ha := List.mem_of_getElem? q
      obtain ⟨o, ho⟩ := hH a ha
      exact (s.ch k a c q r).mono e (Pre.app A A') (by rw [ho]; exact s'.ef a o (by rw [hA a ha]; exact ho))
    · rw [List.getElem?_append_right (by rw [← s.la]; exact hl), List.getElem?_map, ← s.la] at r
      obtain ⟨c0, hc0, rfl⟩ := Option.map_eq_some_iff.mp r
      exact (s'.ch _ a c0 q hc0).sh
  · refine s'.tb.step (Same.refl B') fun P ps h1 h2 h3 h4 => ⟨?_, h3, fun z => ?_, h1⟩
    · cases q : F P with
      | none => rfl
      | some u =>
        rw [hF P u q] at h2
        cases h2
    · rcases List.mem_append.mp z with z | z
      · rw [hA P z] at h2
        obtain ⟨o, ho⟩ := hH P z
        rw [ho] at h2
        cases h2
      · exact h4 z
/-- the callee is handed data and keeps all its cells -/
theorem we_callK {a : AS} {E : XK} (h : wpA K ta env cs fun xs c1 => ∃ (ds : List D) (Φ' : Vl → List Cell → Prop), xs = ds.map .dat ∧ a (ds.map .dat) [] Φ' ∧ ∀ x c', Φ' x c' → Φ (shV c1.length x) (c1 ++ c'.map (shC c1.length))) : wpE K (tCall (conc K a) [] E ta) env cs Φ := fun F B H A σ s Q q => by
  refine h F B H A σ s _ fun xs c1 vs B1 H1 A1 f e1 p1 s1 r1 => ?_
  obtain ⟨ds, Φ', rfl, ha, hq⟩ := f
  rw [List.append_nil]
  have sb : Sub A1 [] [] := ⟨rfl, fun _ _ h => by simp at h⟩
  have s2 := s1.sub (cs0 := []) sb List.nodup_nil CsB.nil rfl (fun j k h => by simp at h)
  refine ⟨_, B1, [], ds.map .dat, [], Φ', s2.withEnv (some_rel (RpVs.of_dats (RpVs.dats r1))), ha, fun x c' v B' H' A' f' e' p' s' => ?_⟩
  have s3 := s1.join0 s' (fun _ _ => rfl) e'
  cases s'.sl with
  | cons r _ =>
    have r3 := RpV.sh (A := A1) r
    rw [s1.la] at r3
    exact q _ _ v B' H' (A1 ++ A') (hq x c' f') (e1.trans e') (p1.trans (Pre.app A1 A')) s3 r3
/-- the callee is handed the whole store -/
theorem we_callI {a : AS} {E : XK} (h : wpA K ta env cs fun xs c1 => ∃ Φ' : Vl → List Cell → Prop, a xs c1 Φ' ∧ ∀ x c', Φ' x c' → Φ x c') : wpE K (tCall (conc K a) [] E ta) env cs Φ := fun F B H A σ s Q q =>
  h F B H A σ s _ fun xs c1 vs B1 H1 A1 ⟨Φ', ha, hq⟩ e1 p1 s1 r1 => by
    rw [List.append_nil]
    refine ⟨F, B1, A1, xs, c1, Φ', s1.withEnv (some_rel r1), ha, fun x c' v B' H' A' f e p s' => ?_⟩
    cases s'.sl with
    | cons r _ => exact q x c' v B' H' A' (hq x c' f) (e1.trans e) (p1.trans p) (s'.withEnv (RpOs.mono e p s1.sl)) r
end
/-! ### rows with keys -/
def ptG {α β : Type} [DecidableEq α] (xs : List (α × β)) (a : α) (b : β) : List (α × β) := if xs.any (fun p => decide (p.1 = a)) then xs.map (fun p => if p.1 = a then (p.1, b) else p) else xs ++ [(a, b)]
section
variable {α β γ : Type} [DecidableEq α]
theorem ptG_len {xs : List (α × β)} {a : α} {b : β} : (ptG xs a b).length ≤ xs.length + 1 := by
  unfold ptG
  split
  · rw [List.length_map]
    omega
  · rw [List.length_append]
    exact Nat.le_refl _
theorem ptG_keys {xs : List (α × β)} {a : α} {b : β} (h : (xs.map (·.1)).Nodup) : ((ptG xs a b).map (·.1)).Nodup := by
  unfold ptG
  split
  · rw [List.map_map, show ((fun p : α × β => p.1) ∘ fun p => if p.1 = a then (p.1, b) else p) = fun p => p.1 from funext fun p => by
      show (if p.1 = a then (p.1, b) else p).1 = p.1
      split <;> rfl]
    exact h
  · rename_i hn
    rw [List.map_append, List.nodup_append]
    refine ⟨h, by simp, fun x hx y hy e => hn ?_⟩
    obtain ⟨p, hp, rfl⟩ := List.mem_map.mp hx
    have : y = a := by simpa using hy
    rw [List.any_eq_true]
    exact ⟨p, hp, by rw [e, this]; simp⟩
theorem ptG_mem {xs : List (α × β)} {a : α} {b : β} {p : α × β} (h : p ∈ ptG xs a b) : p ∈ xs ∨ p = (a, b) := by
  unfold ptG at h
  split at h
  · obtain ⟨q, hq, e⟩ := List.mem_map.mp h
    split at e
    · rename_i hqa
      rw [← e, hqa]
      exact .inr rfl
    · rw [← e]
      exact .inl hq
  · rcases List.mem_append.mp h with h | h
    · exact .inl h
    · exact .inr (List.mem_singleton.mp h)
end
/-- the text dict of rows -/
theorem ptG_S {β : Type} (f : β → D) (xs : List (Str × β)) (a : Str) (b : β) : ptS (mpA f xs) a (f b) = mpA f (ptG xs a b) := by
  unfold ptS ptG mpA
  rw [List.any_map]
  have e : (xs.any ((fun p : Str × D => decide (p.1 = a)) ∘ fun p => (p.1, f p.2))) = xs.any fun p => decide (p.1 = a) := rfl
  rw [e]
  split
  · rw [List.map_map, List.map_map]
    refine List.map_congr_left fun p _ => ?_
    show (if p.1 = a then (p.1, f b) else (p.1, f p.2)) = ((if p.1 = a then (p.1, b) else p).1, f (if p.1 = a then (p.1, b) else p).2)
    split <;> rfl
  · rw [List.map_append]
    rfl
/-- the dict of rows keyed by tuples -/
theorem ptG_Y {α β : Type} [DecidableEq α] (k : α → D) (f : β → Vl) (hk : ∀ a b, kyN (k a) = kyN (k b) → a = b) (xs : List (α × β)) (a : α) (b : β) : ptY (xs.map fun p => (k p.1, f p.2)) (k a) (f b) = (ptG xs a b).map fun p => (k p.1, f p.2) := by
  have e : (lkY (xs.map fun p => (k p.1, f p.2)) (k a)).isSome = xs.any fun p => decide (p.1 = a) := by
    unfold lkY
    rw [Option.isSome_map, List.find?_map, Option.isSome_map]
    induction xs with
    | nil => rfl
    | cons p r ih =>
      rw [List.find?_cons, List.any_cons]
      by_cases c : p.1 = a
      · simp [c]
      · have : ¬ kyN (k p.1) = kyN (k a) := fun z => c (hk _ _ z)
        simp only [Function.comp, this, c, decide_false, Bool.false_or]
        exact ih
  unfold ptY ptG
  rw [e]
  split
  · rw [List.map_map, List.map_map]
    refine List.map_congr_left fun p _ => ?_
    show (if kyN (k p.1) = kyN (k a) then (k p.1, f b) else (k p.1, f p.2)) = (k (if p.1 = a then (p.1, b) else p).1, f (if p.1 = a then (p.1, b) else p).2)
    by_cases c : p.1 = a
    · rw [if_pos (by rw [c]), if_pos c]
    · rw [if_neg fun z => c (hk _ _ z), if_neg c]
  · rw [List.map_append]
    rfl
end G
namespace K49
open PySem PySem.Spec PyProof.Rows L2 TL G
local macro_rules | `(tactic| walk_at "gside") => `(tactic| first
  | omega
  | (show (0 : Int) < _; omega)
  | (show (0 : Int) < _; decide +kernel)
  | exact cdivw (by omega) (by omega)
  | exact cmulw (by omega) (by omega)
  | exact cmulw (by decide +kernel) (by omega)
  | exact cmulw (by decide +kernel) (by decide +kernel)
  | exact cmulw (by omega) (by decide +kernel)
  | (show CPowW _ _; decide +kernel)
  | exact ⟨by decide, by decide +kernel⟩
  | decide +kernel)
local macro_rules | `(tactic| walk_at "g1") => `(tactic| first
  | with_reducible refine ws_seqa ?_
  | with_reducible refine ws_seqd ?_
  | with_reducible refine ws_seqn ?_
  | with_reducible refine ws_seqp ?_
  | ((with_reducible refine ws_par ?_); (walk_at "g"); (refine ⟨_, _, rfl, ?_⟩))
  | with_reducible refine ws_ret ?_
  | with_reducible refine ws_asg ?_
  | with_reducible refine ws_if ?_
  | with_reducible refine ws_drop ?_
  | with_reducible refine ws_next ?_
  | with_reducible refine wg_name ?_
  | ((with_reducible refine' wg_tup ?h1 ?h2 ?_); (case h1 => rfl); (case h2 => rfl))
  | with_reducible refine wgs_mc ?_
  | with_reducible refine wgs_mn ?_
  | with_reducible refine wt_test ?_
  | with_reducible refine wt_B ?_
  | with_reducible refine wt_not ?_
  | with_reducible refine wt_yes ?_
  | ((with_reducible refine' we_var ?h1 ?_); (case h1 => rfl))
  | with_reducible refine we_int ?_
  | with_reducible refine we_tD ?_
  | with_reducible refine we_joined ?_
  | with_reducible refine wj_nil ?_
  | with_reducible refine wj_cons ?_
  | with_reducible refine we_dnewF ?_
  | with_reducible refine we_disp1 ?_
  | with_reducible refine we_str ?_
  | with_reducible refine we_bl ?_
  | with_reducible refine we_non ?_
  | ((with_reducible refine we_ixF ?_); (walk_at "g"); (refine ⟨rfl, _, rfl, ?h2, ?_⟩); (case h2 => (first | decide | simp)))
  | with_reducible refine we_op ?_
  | with_reducible refine we_un ?_
  | ((with_reducible refine' we_isi ?h1 ?_); (case h1 => (first | exact .inl rfl | exact .inr (.inl rfl) | exact .inr (.inr (.inl rfl)) | exact .inr (.inr (.inr (.inl rfl))) | exact .inr (.inr (.inr (.inr (.inl rfl)))))))
  | with_reducible refine we_cb ?_
  | with_reducible refine we_sl ?_
  | with_reducible refine we_tupX ?_
  | with_reducible refine we_lst ?_
  | with_reducible refine we_if ?_
  | with_reducible refine we_not ?_
  | ((with_reducible refine' we_chainX ?h1 ?h2 ?h3 ?h4 ?h5 ?_); (case h1 => (walk_at "g"; exact ⟨rfl, rfl⟩)); (case h2 => (walk_at "g"; exact ⟨rfl, rfl⟩)); (case h3 => (walk_at "g"; exact ⟨rfl, rfl⟩)); (case h4 => (intro _; walk_at "g"; exact ⟨rfl, rfl⟩)); (case h5 => (intro _; walk_at "g"; exact ⟨rfl, rfl⟩)))
  | with_reducible refine we_chain ?_
  | with_reducible refine we_m1 ?_
  | with_reducible refine we_m0 ?_
  | with_reducible refine wa_nil ?_
  | ((with_reducible refine wa_lst ?_); (walk_at "g"); (refine ⟨rfl, _, rfl, ?h2, ?_⟩); (case h2 => (first | decide | simp)))
  | with_reducible refine wa_cons ?_
  | with_reducible refine wo_none ?_
  | with_reducible refine wo_some ?_
  | ((with_reducible refine' wu_addI ?h1 ?h2 ?_); (case h1 => rfl); (case h2 => rfl))
  | ((with_reducible refine' wr_I0i ?h1 ?h2 ?_); (case h1 => rfl); (case h2 => rfl))
  | ((with_reducible refine' wr_I0b ?h1 ?h2 ?_); (case h1 => rfl); (case h2 => rfl))
  | ((with_reducible refine' wu_I ?h1 ?_); (case h1 => rfl))
  | ((with_reducible refine' wu_ltI ?h1 ?h2 ?_); (case h1 => rfl); (case h2 => rfl))
  | ((with_reducible refine' wu_leI ?h1 ?h2 ?_); (case h1 => rfl); (case h2 => rfl))
  | ((with_reducible refine' wu_leS ?h1 ?h2 ?_); (case h1 => rfl); (case h2 => rfl))
  | ((with_reducible refine' wu_ltS ?h1 ?h2 ?_); (case h1 => rfl); (case h2 => rfl))
  | ((with_reducible refine' wr_eqBo ?h1 ?h2 ?_); (case h1 => rfl); (case h2 => rfl))
  | ((with_reducible refine' wr_eqI ?h1 ?h2 ?_); (case h1 => rfl); (case h2 => rfl))
  | ((with_reducible refine' wr_neI ?h1 ?h2 ?_); (case h1 => rfl); (case h2 => rfl))
  | ((with_reducible refine' wr_isN ?h1 ?h2 ?_); (case h1 => rfl); (case h2 => rfl))
  | ((with_reducible refine' wr_notN ?h1 ?h2 ?_); (case h1 => rfl); (case h2 => rfl))
  | ((with_reducible refine' wr_eqS ?h1 ?h2 ?_); (case h1 => rfl); (case h2 => rfl))
  | ((with_reducible refine' wr_neS ?h1 ?h2 ?_); (case h1 => rfl); (case h2 => rfl))
  | ((with_reducible refine' wu_inL ?h1 ?h2 ?_); (case h1 => rfl); (case h2 => (first | exact .inr .dat | exact .inl (.cel rfl) | exact .inl .dat)))
  | ((with_reducible refine' wu_ninL ?h1 ?h2 ?_); (case h1 => rfl); (case h2 => (first | exact .inr .dat | exact .inl (.cel rfl) | exact .inl .dat)))
  | ((with_reducible refine' wu_inK ?h1 ?h2 ?h3 ?_); (case h1 => rfl); (case h2 => rfl); (case h3 => rfl))
  | ((with_reducible refine' wu_ninK ?h1 ?h2 ?h3 ?_); (case h1 => rfl); (case h2 => rfl); (case h3 => rfl))
  | ((with_reducible refine' wu_inKL ?h1 ?h2 ?h3 ?h4 ?h5 ?_); (case h1 => rfl); (case h2 => rfl); (case h3 => rfl); (case h4 => rfl); (case h5 => rfl))
  | ((with_reducible refine' wu_ninKL ?h1 ?h2 ?h3 ?h4 ?h5 ?_); (case h1 => rfl); (case h2 => rfl); (case h3 => rfl); (case h4 => rfl); (case h5 => rfl))
  | ((with_reducible refine' wu_inS ?h1 ?h2 ?_); (case h1 => rfl); (case h2 => rfl))
  | ((with_reducible refine' wu_ninS ?h1 ?h2 ?_); (case h1 => rfl); (case h2 => rfl))
  | ((with_reducible refine' wt_andG ?h1 ?h2 ?_); (case h1 => (walk_at "g"; exact XB.mk)); (case h2 => (intro _; walk_at "g"; exact XB.mk)))
  | ((with_reducible refine' wt_orG ?h1 ?h2 ?_); (case h1 => (walk_at "g"; exact XB.mk)); (case h2 => (intro _; walk_at "g"; exact XB.mk)))
  | ((with_reducible refine' we_andG ?h1 ?h2 ?_); (case h1 => (walk_at "g"; exact XE.mk)); (case h2 => (intro _; walk_at "g"; exact XE.mk)))
  | ((with_reducible refine' we_orG ?h1 ?h2 ?_); (case h1 => (walk_at "g"; exact XE.mk)); (case h2 => (intro _; walk_at "g"; exact XE.mk)))
  | ((with_reducible refine' wt_andG (b := false) ?h1 ?h2 ?_); (case h1 => (walk_at "g"; exact XB.mk)); (case h2 => (intro hc; exfalso; revert hc; walk_at "gno")))
  | ((with_reducible refine' wt_orG (b := false) ?h1 ?h2 ?_); (case h1 => (walk_at "g"; exact XB.mk)); (case h2 => (intro hc; exfalso; revert hc; walk_at "gno")))
  | ((with_reducible refine' we_andG (b := false) ?h1 ?h2 ?_); (case h1 => (walk_at "g"; exact XE.mk)); (case h2 => (intro hc; exfalso; revert hc; walk_at "gno")))
  | ((with_reducible refine' we_orG (b := false) ?h1 ?h2 ?_); (case h1 => (walk_at "g"; exact XE.mk)); (case h2 => (intro hc; exfalso; revert hc; walk_at "gno")))
  | ((with_reducible refine' wv_tupL ?h1 ?_); (case h1 => (first | exact DatOf.cel rfl | exact DatOf.dat)))
  | ((with_reducible refine' wc_tupL ?h1 ?_); (case h1 => (first | exact DatOf.cel rfl | exact DatOf.dat)))
  | ((with_reducible refine' wc_tupT ?h1 ?_); (case h1 => rfl))
  | ((with_reducible refine' wc_abs ?h1 ?_); (case h1 => rfl))
  | ((with_reducible refine' wc_int1 ?h1 ?_); (case h1 => rfl))
  | ((with_reducible refine' wc_max2 ?h1 ?h2 ?_); (case h1 => rfl); (case h2 => rfl))
  | ((with_reducible refine' wc_min2 ?h1 ?h2 ?_); (case h1 => rfl); (case h2 => rfl))
  | ((with_reducible refine' wc_lenT ?h1 ?_); (case h1 => rfl))
  | ((with_reducible refine' wc_lenL ?h1 ?_); (case h1 => (first | exact DatOf.dat | exact DatOf.cel rfl)))
  | ((with_reducible refine' wu_ix0 ?h1 ?h2 ?_); (case h1 => rfl); (case h2 => rfl))
  | ((with_reducible refine' wu_ix1 ?h1 ?h2 ?_); (case h1 => rfl); (case h2 => rfl))
  | ((with_reducible refine' wu_ix2 ?h1 ?h2 ?_); (case h1 => rfl); (case h2 => rfl))
  | ((with_reducible refine' wu_ix3 ?h1 ?h2 ?_); (case h1 => rfl); (case h2 => rfl))
  | ((with_reducible refine' wv_ixCm ?h1 ?h2 ?h3 ?h4 ?h5 fun a ha he => ?_); (case h1 => rfl); (case h2 => rfl); (case h3 => rfl); (case h4 => omega); (case h5 => omega))
  | ((with_reducible refine' wv_ixTm ?h1 ?h2 ?h3 ?h4 fun a ha he => ?_); (case h1 => rfl); (case h2 => rfl); (case h3 => omega); (case h4 => omega))
  | ((with_reducible refine' wu_ixC ?h1 ?h2 ?h3 ?h4 ?_); (case h1 => rfl); (case h2 => rfl); (case h3 => rfl); (case h4 => rfl))
  | ((with_reducible refine' wv_ixCd ?h1 ?h2 ?h3 ?h4 ?h5 ?h6 fun d hd he => ?_); (case h1 => rfl); (case h2 => rfl); (case h3 => rfl); (case h4 => rfl); (case h5 => omega); (case h6 => (simp only [List.length_cons, List.length_nil]; omega)))
  | ((with_reducible refine' wv_slTs ?h1 ?h2 ?_); (case h1 => rfl); (case h2 => omega))
  | ((with_reducible refine' wv_slTp ?h1 ?h2 ?_); (case h1 => rfl); (case h2 => omega))
  | ((with_reducible refine' wv_slLs ?h1 ?h2 ?_); (case h1 => (first | exact DatOf.dat | exact DatOf.cel rfl)); (case h2 => omega))
  | ((with_reducible refine' wv_slLp ?h1 ?h2 ?_); (case h1 => (first | exact DatOf.dat | exact DatOf.cel rfl)); (case h2 => omega))
  | ((with_reducible refine' wv_slTm ?h1 ?_); (case h1 => rfl))
  | ((with_reducible refine' wv_revT ?h1 ?_); (case h1 => rfl))
  | ((with_reducible refine' wv_revL ?h1 ?_); (case h1 => (first | exact DatOf.dat | exact DatOf.cel rfl)))
  | ((with_reducible refine' wu_slT ?h1 ?_); (case h1 => rfl))
  | ((with_reducible refine' wu_slL ?h1 ?_); (case h1 => (first | exact DatOf.dat | exact DatOf.cel rfl)))
  | ((with_reducible refine' wr_Ii ?h1 ?h2 ?h3 ?_); (case h1 => rfl); (case h2 => rfl); (case h3 => walk_at "gside"))
  | ((with_reducible refine' wu_mulI ?h1 ?h2 ?h3 ?_); (case h1 => rfl); (case h2 => rfl); (case h3 => walk_at "gside"))
  | ((with_reducible refine' wc_lenS ?h1 ?h2 ?_); (case h1 => rfl); (case h2 => walk_at "gside"))
  | ((with_reducible refine' wv_ixS ?h1 ?h2 ?h3 ?h4 ?h5 fun c hc he hn => ?_); (case h1 => rfl); (case h2 => rfl); (case h3 => walk_at "gside"); (case h4 => omega); (case h5 => omega))
  | ((with_reducible refine' wu_addT ?h1 ?h2 ?h3 ?_); (case h1 => rfl); (case h2 => rfl); (case h3 => (simp only [List.length_append, List.length_map, List.length_take, List.length_drop, List.length_cons, List.length_nil]; omega)))
  | ((with_reducible refine' wu_addG ?h1 ?h2 ?h3 ?_); (case h1 => (first | exact DatOf.dat | exact DatOf.cel rfl | exact datOf_celF rfl rfl)); (case h2 => (first | exact DatOf.dat | exact DatOf.cel rfl | exact datOf_celF rfl rfl)); (case h3 => (first | omega | (simp only [List.length_append, List.length_cons, List.length_nil]; omega) | (simp only [List.length_append, List.length_map, List.length_cons, List.length_nil]; omega) | (simp only [List.length_append, List.length_map, List.length_cons, List.length_nil, List.length_take, List.length_drop]; omega))))
  | ((with_reducible refine' wu_ixT ?h1 ?h2 ?h3 ?_); (case h1 => rfl); (case h2 => rfl); (case h3 => rfl))
  | ((with_reducible refine' wv_ixT ?h1 ?h2 ?h3 ?h4 fun d hd he => ?_); (case h1 => rfl); (case h2 => rfl); (case h3 => omega); (case h4 => (first | omega | (simp only [List.length_cons, List.length_nil]; omega))))
  | ((with_reducible refine' wv_ixL ?h1 ?h2 ?h3 ?h4 fun d hd he => ?_); (case h1 => rfl); (case h2 => rfl); (case h3 => omega); (case h4 => (first | omega | (simp only [List.length_cons, List.length_nil]; omega))))
  | ((with_reducible refine' wv_mulS1 ?h1 ?h2 ?h3 ?h4 ?h5 fun hn => ?_); (case h1 => rfl); (case h2 => rfl); (case h3 => decide +kernel); (case h4 => omega); (case h5 => omega))
  | ((with_reducible refine' wv_mulS ?h1 ?h2 ?h3 ?h4 ?h5 fun hn => ?_); (case h1 => rfl); (case h2 => rfl); (case h3 => walk_at "gside"); (case h4 => omega); (case h5 => omega))
  | ((with_reducible refine' wv_addS ?h1 ?h2 ?h3 fun hn => ?_); (case h1 => rfl); (case h2 => rfl); (case h3 => walk_at "gside"))
  | ((with_reducible refine' wv_slp ?h1 ?h2 ?h3 fun hn => ?_); (case h1 => rfl); (case h2 => walk_at "gside"); (case h3 => omega))
  | ((with_reducible refine' wv_sls ?h1 ?h2 ?h3 fun hn => ?_); (case h1 => rfl); (case h2 => walk_at "gside"); (case h3 => omega))
  | with_reducible refine wg_setL ?_
  | ((with_reducible refine' wm_lower ?h1 ?h2 ?_); (case h1 => rfl); (case h2 => omega))
  | ((with_reducible refine' wm_split ?h1 ?h2 ?h3 ?h4 ?_); (case h1 => rfl); (case h2 => rfl); (case h3 => decide +kernel); (case h4 => (first | omega | (rw [lower_len (by assumption)]; omega))))
  | ((with_reducible refine' wm_isdigit ?h1 ?_); (case h1 => rfl))
  | ((with_reducible refine' wm_part ?h1 ?h2 ?h3 ?h4 ?_); (case h1 => rfl); (case h2 => rfl); (case h3 => decide +kernel); (case h4 => omega))
  | ((with_reducible refine' wm_stripC ?h1 ?h2 ?h3 ?_); (case h1 => rfl); (case h2 => rfl); (case h3 => omega))
  | ((with_reducible refine' wm_upper ?h1 ?h2 ?_); (case h1 => rfl); (case h2 => omega))
  | ((with_reducible refine' wm_starts ?h1 ?h2 ?_); (case h1 => rfl); (case h2 => rfl))
  | ((with_reducible refine' wm_ends ?h1 ?h2 ?_); (case h1 => rfl); (case h2 => rfl))
  | ((with_reducible refine' wm_find ?h1 ?h2 ?_); (case h1 => rfl); (case h2 => rfl))
  | ((with_reducible refine' wv_anyC ?h1 ?h2 ?_); (case h1 => rfl); (case h2 => rfl))
  | ((with_reducible refine' wv_allC ?h1 ?h2 ?_); (case h1 => rfl); (case h2 => rfl))
  | refine ⟨_, _, _, _, rfl, rfl, rfl, rfl, ?_⟩
  | refine ⟨show List.length _ ≤ 100000 from (by simp), ?_⟩
  | refine ⟨_, rfl, ?_⟩
  | refine ⟨⟨_, rfl⟩, ?_⟩
  | refine ⟨_, DatOf.dat, ?_⟩
  | dsimp only)
local macro_rules | `(tactic| walk_at "g") => `(tactic| repeat walk_at "g1")
local macro_rules | `(tactic| walk_at "glen") => `(tactic| (intro _ _ _ h; (repeat (first | (obtain ⟨e, _⟩ := h; rw [e]; rfl; done) | (obtain ⟨_, h⟩ := h)))))
local macro_rules | `(tactic| walk_at "gif") => `(tactic| (refine ⟨fun (hb : _ = true) => ?_, fun (hb : _ = false) => ?_⟩ <;> (try simp only [decide_eq_true_eq, decide_eq_false_iff_not, Bool.and_eq_true, Bool.and_eq_false_iff, Bool.or_eq_true, Bool.or_eq_false_iff, Bool.not_eq_true', Bool.not_eq_false', Decidable.not_not, isD_str, isD_tuple, isD_int, isD_bool, isD_list, isN, Bool.not_true, Bool.not_false, Bool.false_or, Bool.or_false, Bool.true_and, Bool.and_true, Bool.false_and, Bool.and_false, Bool.true_or, Bool.or_true, Bool.false_eq_true, Bool.true_eq_false, not_true_eq_false, not_false_eq_true, false_or, or_false, true_and, and_true, false_and, and_false] at hb)))
local macro_rules | `(tactic| walk_at "gg") => `(tactic| (walk_at "g"; (try (first | ((with_reducible refine ws_seqi ?_); walk_at "gg") | (walk_at "gif"; (all_goals walk_at "gg"))))))
local macro_rules | `(tactic| walk_at "dlen") => `(tactic| (rintro _ _ _ ⟨_, _, ds, e0, _, _, hp, _⟩; subst e0; rw [List.length_cons, List.length_map]; (repeat (first | exact (congrArg (fun l => List.length l + 1) (show ds = _ from hp)).trans rfl | (obtain ⟨e, _⟩ := hp; exact (congrArg (fun l => List.length l + 1) (show ds = _ from e)).trans rfl) | (obtain ⟨_, hp⟩ := hp)))))
local macro_rules | `(tactic| walk_at "blen") => `(tactic| (rintro _ _ _ ⟨_, _, _, _, ds, e0, _, _, _, hp, _⟩; subst e0; rw [List.length_cons, List.length_map]; (repeat (first | exact (congrArg (fun l => List.length l + 1) (show ds = _ from hp)).trans rfl | (obtain ⟨e, _⟩ := hp; exact (congrArg (fun l => List.length l + 1) (show ds = _ from e)).trans rfl) | (obtain ⟨_, hp⟩ := hp)))))
local macro_rules | `(tactic| walk_at "plen") => `(tactic| (rintro _ _ _ ⟨ds, _, e0, _, hp, _⟩; subst e0; rw [List.length_map]; (repeat (first | exact (congrArg List.length (show ds = _ from hp)).trans rfl | (obtain ⟨e, _⟩ := hp; exact (congrArg List.length (show ds = _ from e)).trans rfl) | (obtain ⟨_, hp⟩ := hp)))))
local macro_rules | `(tactic| walk_at "g1") => `(tactic| with_reducible refine cl_pure ?_)
local macro_rules | `(tactic| walk_at "ge") => `(tactic| (repeat (first | exact EnvB.nil | refine EnvB.none ?_ | refine EnvB.dat ?_ | refine EnvB.odat ?_ | refine EnvB.cel (by simp) ?_)))
local macro_rules | `(tactic| walk_at "gcb") => `(tactic| (first | exact cb_dats | exact cb_dct | (repeat (first | exact vlB_nil | refine vlB_dat ?_))))
local macro_rules | `(tactic| walk_at "gcs") => `(tactic| (repeat (first | exact CsB.nil | (refine CsB.cons ?_ ?_; (walk_at "gcb")))))
local macro_rules | `(tactic| walk_at "gno") => `(tactic| (simp only [isD_str, isD_tuple, isD_int, isD_bool, isD_list, isN, Bool.not_true, Bool.not_false, Bool.false_eq_true, Bool.true_eq_false, false_implies, not_false_eq_true]; done))
local macro_rules | `(tactic| walk_at "stok") => `(tactic| first | assumption | (refine' StOk.up ?h1 ?h2; (case h1 => assumption); (case h2 => omega)))
local macro_rules | `(tactic| walk_at "qlen") => `(tactic| (rintro _ _ _ ⟨_, _, _, _, ds, e0, _, _, _, hp, _⟩; subst e0; rw [List.length_cons, List.length_map]; (repeat (first | exact (congrArg (fun l => List.length l + 1) (show ds = _ from hp)).trans rfl | (obtain ⟨e, _⟩ := hp; exact (congrArg (fun l => List.length l + 1) (show ds = _ from e)).trans rfl) | (obtain ⟨_, hp⟩ := hp)))))
local macro_rules | `(tactic| walk_at "prok") => `(tactic| first | assumption | (refine' PrOk.up ?h1 ?h2; (case h1 => assumption); (case h2 => omega)))
local macro_rules | `(tactic| walk_at "g1") => `(tactic| with_reducible refine cl_post ?_)
local macro_rules | `(tactic| walk_at "olen") => `(tactic| (rintro _ _ _ ⟨ds, e0, _, hp, _⟩; subst e0; rw [List.length_map]; (repeat (first | exact (congrArg List.length (show ds = _ from hp)).trans rfl | (obtain ⟨e, _⟩ := hp; exact (congrArg List.length (show ds = _ from e)).trans rfl) | (obtain ⟨_, hp⟩ := hp)))))
local macro_rules | `(tactic| walk_at "g1") => `(tactic| ((with_reducible refine' wv_ixLI ?h1 ?h2 ?h3 ?h4 ?h5 fun r hr => ?_); (case h1 => rfl); (case h2 => rfl); (case h3 => rfl); (case h4 => omega); (case h5 => (simp only [List.length_cons, List.length_nil]; omega)); (simp only [List.mem_cons, List.not_mem_nil, or_false] at hr)))
local macro_rules | `(tactic| walk_at "g1") => `(tactic| ((with_reducible refine' wv_ixLS ?h1 ?h2 ?h3 ?h4 ?h5 fun z hz => ?_); (case h1 => rfl); (case h2 => rfl); (case h3 => rfl); (case h4 => omega); (case h5 => (simp only [List.length_cons, List.length_nil]; omega)); (simp only [List.mem_cons, List.not_mem_nil, or_false] at hz)))
local macro_rules | `(tactic| walk_at "g1") => `(tactic| ((with_reducible refine' wc_listL ?h1 ?_); (case h1 => (first | exact .inr rfl | exact .inl .dat | exact .inl (.cel rfl)))))
local macro_rules | `(tactic| walk_at "gn") => `(tactic| simp only [List.set_cons_zero, List.set_cons_succ, List.nil_append, List.cons_append, List.length_cons, List.length_nil, Nat.zero_add, Nat.reduceAdd, List.take_succ_cons, List.take_zero])
local macro_rules | `(tactic| walk_at "g1") => `(tactic| first
  | with_reducible refine we_dIn ?_
  | with_reducible refine we_dNin ?_
  | with_reducible refine we_tupN ?_
  | with_reducible refine wsm_seq ?_
  | refine ⟨_, _, rfl, IsDct.dat, ?_⟩
  | refine ⟨_, _, rfl, IsDct.cel rfl, ?_⟩)
local macro_rules | `(tactic| walk_at "g1") => `(tactic| first
  | with_reducible refine wx_weak ?_
  | with_reducible refine wrl_weak ?_
  | with_reducible refine wrr_weak ?_
  | with_reducible refine wc_weakL ?_
  | with_reducible refine wc_weakN ?_)
local macro_rules | `(tactic| walk_at "mlen") => `(tactic| (rintro _ _ _ ⟨_, ds, _, _, e0, _, _, _, hp, _⟩; subst e0; rw [List.length_cons, List.length_map]; (repeat (first | exact (congrArg (fun l => List.length l + 1) (show ds = _ from hp)).trans rfl | (obtain ⟨e, _⟩ := hp; exact (congrArg (fun l => List.length l + 1) (show ds = _ from e)).trans rfl) | (obtain ⟨_, hp⟩ := hp)))))
local macro_rules | `(tactic| walk_at "g1") => `(tactic| with_reducible refine cl_mut ?_)
local macro_rules | `(tactic| walk_at "g1") => `(tactic| first
  | with_reducible refine wu_lr0 ?_
  | with_reducible refine wu_lr1 ?_
  | with_reducible refine wu_lr2 ?_
  | with_reducible refine wu_lr3 ?_
  | with_reducible refine wu_mk0 ?_
  | with_reducible refine wu_mk1 ?_
  | with_reducible refine wu_cl0 ?_
  | with_reducible refine wu_cl1 ?_
  | with_reducible refine wu_cl2 ?_
  | with_reducible refine wu_cl3 ?_
  | with_reducible refine wu_ch0 ?_
  | with_reducible refine wu_ch1 ?_)
local macro_rules | `(tactic| walk_at "g1") => `(tactic| with_reducible refine cl_spec ?_)
local macro_rules | `(tactic| walk_at "slen") => `(tactic| (rintro _ _ _ ⟨ds, _, e0, _, hp, _⟩; subst e0; rw [List.length_map]; (repeat (first | exact (congrArg List.length (show ds = _ from hp)).trans rfl | (obtain ⟨e, _⟩ := hp; exact (congrArg List.length (show ds = _ from e)).trans rfl) | (obtain ⟨_, hp⟩ := hp)))))
local macro_rules | `(tactic| walk_at "g1") => `(tactic| with_reducible refine we_ljust ?_)
local macro_rules | `(tactic| walk_at "g1") => `(tactic| ((with_reducible refine' wm_ljust ?h1 ?h2 ?h3 ?h4 ?h5 ?_); (case h1 => rfl); (case h2 => rfl); (case h3 => rfl); (case h4 => decide +kernel); (case h5 => decide +kernel)))
local macro_rules | `(tactic| walk_at "g1") => `(tactic| ((with_reducible refine' wr_isB ?h1 ?h2 ?_); (case h1 => rfl); (case h2 => rfl)))
def top (i : Nat) : Stmt := PySem.Challenge.pw_answertrees_k49_what_a_log_leaves.main.body.getD i (.Pass ⟨0, 0, 0, 0⟩)
abbrev s_Left_init : Stmt := inClass (top 1) 0
theorem sc_Left_init : FnScope ["self"] ["self"] (defScope s_Left_init) := ⟨rfl, rfl, rfl, by decide +kernel, rfl, by decide +kernel, by decide +kernel⟩
abbrev s_LetterDeed_init : Stmt := inClass (top 2) 0
theorem sc_LetterDeed_init : FnScope ["self", "deed"] ["self", "deed"] (defScope s_LetterDeed_init) := ⟨rfl, rfl, rfl, by decide +kernel, rfl, by decide +kernel, by decide +kernel⟩
abbrev s_LetterDeed_shelf_in : Stmt := inClass (top 2) 1
theorem sc_LetterDeed_shelf_in : FnScope ["self", "left"] ["self", "left"] (defScope s_LetterDeed_shelf_in) := ⟨rfl, rfl, rfl, by decide +kernel, rfl, by decide +kernel, by decide +kernel⟩
abbrev s_LetterDeed_says : Stmt := inClass (top 2) 2
theorem sc_LetterDeed_says : FnScope ["self"] ["self"] (defScope s_LetterDeed_says) := ⟨rfl, rfl, rfl, by decide +kernel, rfl, by decide +kernel, by decide +kernel⟩
abbrev s_LetterDeed_leave_in : Stmt := inClass (top 2) 3
theorem sc_LetterDeed_leave_in : FnScope ["self", "left", "shelf"] ["self", "left"] (defScope s_LetterDeed_leave_in) := ⟨rfl, rfl, rfl, by decide +kernel, rfl, by decide +kernel, by decide +kernel⟩
abbrev s_HandDeed_init : Stmt := inClass (top 2) 0
theorem sc_HandDeed_init : FnScope ["self", "deed"] ["self", "deed"] (defScope s_HandDeed_init) := ⟨rfl, rfl, rfl, by decide +kernel, rfl, by decide +kernel, by decide +kernel⟩
abbrev s_HandDeed_shelf_in : Stmt := inClass (top 3) 0
theorem sc_HandDeed_shelf_in : FnScope ["self", "left"] ["self", "left"] (defScope s_HandDeed_shelf_in) := ⟨rfl, rfl, rfl, by decide +kernel, rfl, by decide +kernel, by decide +kernel⟩
abbrev s_HandDeed_says : Stmt := inClass (top 3) 1
theorem sc_HandDeed_says : FnScope ["self"] ["self"] (defScope s_HandDeed_says) := ⟨rfl, rfl, rfl, by decide +kernel, rfl, by decide +kernel, by decide +kernel⟩
abbrev s_HandDeed_leave_in : Stmt := inClass (top 2) 3
theorem sc_HandDeed_leave_in : FnScope ["self", "left", "shelf"] ["self", "left"] (defScope s_HandDeed_leave_in) := ⟨rfl, rfl, rfl, by decide +kernel, rfl, by decide +kernel, by decide +kernel⟩
abbrev s_ReadDeed_init : Stmt := inClass (top 2) 0
theorem sc_ReadDeed_init : FnScope ["self", "deed"] ["self", "deed"] (defScope s_ReadDeed_init) := ⟨rfl, rfl, rfl, by decide +kernel, rfl, by decide +kernel, by decide +kernel⟩
abbrev s_ReadDeed_shelf_in : Stmt := inClass (top 4) 0
theorem sc_ReadDeed_shelf_in : FnScope ["self", "left"] ["self", "left"] (defScope s_ReadDeed_shelf_in) := ⟨rfl, rfl, rfl, by decide +kernel, rfl, by decide +kernel, by decide +kernel⟩
abbrev s_ReadDeed_says : Stmt := inClass (top 4) 1
theorem sc_ReadDeed_says : FnScope ["self"] ["self"] (defScope s_ReadDeed_says) := ⟨rfl, rfl, rfl, by decide +kernel, rfl, by decide +kernel, by decide +kernel⟩
abbrev s_ReadDeed_leave_in : Stmt := inClass (top 2) 3
theorem sc_ReadDeed_leave_in : FnScope ["self", "left", "shelf"] ["self", "left"] (defScope s_ReadDeed_leave_in) := ⟨rfl, rfl, rfl, by decide +kernel, rfl, by decide +kernel, by decide +kernel⟩
abbrev s_made : Stmt := top 5
theorem sc_made : FnScope ["deed"] ["deed"] (defScope s_made) := ⟨rfl, rfl, rfl, by decide +kernel, rfl, by decide +kernel, by decide +kernel⟩
abbrev s_left_by : Stmt := top 6
theorem sc_left_by : FnScope ["log", "left", "deed", "stands"] ["log"] (defScope s_left_by) := ⟨rfl, rfl, rfl, by decide +kernel, rfl, by decide +kernel, by decide +kernel⟩
abbrev s_pack_of : Stmt := top 7
theorem sc_pack_of : FnScope ["log", "letter", "there"] ["log"] (defScope s_pack_of) := ⟨rfl, rfl, rfl, by decide +kernel, rfl, by decide +kernel, by decide +kernel⟩
abbrev s_marks_of : Stmt := top 8
theorem sc_marks_of : FnScope ["log", "name", "hand"] ["log"] (defScope s_marks_of) := ⟨rfl, rfl, rfl, by decide +kernel, rfl, by decide +kernel, by decide +kernel⟩
abbrev s_reads_of : Stmt := top 9
theorem sc_reads_of : FnScope ["log", "name", "read"] ["log"] (defScope s_reads_of) := ⟨rfl, rfl, rfl, by decide +kernel, rfl, by decide +kernel, by decide +kernel⟩
abbrev s__law_start : Stmt := top 11
theorem sc__law_start : FnScope ["_law_script", "_law_deep", "_law_mixed", "_law_k", "_law_cell"] ["_law_script"] (defScope s__law_start) := ⟨rfl, rfl, rfl, by decide +kernel, rfl, by decide +kernel, by decide +kernel⟩
abbrev s__law_take : Stmt := top 12
theorem sc__law_take : FnScope ["_law_state", "_law_many", "_law_digit", "_law_once"] ["_law_state", "_law_many"] (defScope s__law_take) := ⟨rfl, rfl, rfl, by decide +kernel, rfl, by decide +kernel, by decide +kernel⟩
abbrev s__law_name : Stmt := top 13
theorem sc__law_name : FnScope ["_law_state", "_law_some", "_law_signs", "_law_k"] ["_law_state"] (defScope s__law_name) := ⟨rfl, rfl, rfl, by decide +kernel, rfl, by decide +kernel, by decide +kernel⟩
abbrev s__law_pool : Stmt := top 14
theorem sc__law_pool : FnScope ["_law_state", "_law_many", "_law_found", "_law_k", "_law_name_here"] ["_law_state", "_law_many"] (defScope s__law_pool) := ⟨rfl, rfl, rfl, by decide +kernel, rfl, by decide +kernel, by decide +kernel⟩
abbrev s__law_of : Stmt := top 15
theorem sc__law_of : FnScope ["_law_state", "_law_some"] ["_law_state", "_law_some"] (defScope s__law_of) := ⟨rfl, rfl, rfl, by decide +kernel, rfl, by decide +kernel, by decide +kernel⟩
abbrev s__law_names : Stmt := top 16
theorem sc__law_names : FnScope ["_law_state", "_law_many", "_law_found", "_law_name_here"] ["_law_state", "_law_many"] (defScope s__law_names) := ⟨rfl, rfl, rfl, by decide +kernel, rfl, by decide +kernel, by decide +kernel⟩
abbrev s__law_letters : Stmt := top 17
theorem sc__law_letters : FnScope ["_law_state", "_law_pool_here", "_law_many", "_law_found", "_law_k", "_law_day", "_law_head", "_law_row", "_law_at"] ["_law_state", "_law_pool_here", "_law_many"] (defScope s__law_letters) := ⟨rfl, rfl, rfl, by decide +kernel, rfl, by decide +kernel, by decide +kernel⟩
abbrev s__law_deed : Stmt := top 18
theorem sc__law_deed : FnScope ["_law_state", "_law_pool_here", "_law_letters_here", "_law_word", "_law_at"] ["_law_state", "_law_pool_here", "_law_letters_here"] (defScope s__law_deed) := ⟨rfl, rfl, rfl, by decide +kernel, rfl, by decide +kernel, by decide +kernel⟩
abbrev s__law_said : Stmt := top 19
theorem sc__law_said : FnScope ["_law_log", "_law_said_here", "_law_deed_here", "_law_stands", "_law_kind"] ["_law_log"] (defScope s__law_said) := ⟨rfl, rfl, rfl, by decide +kernel, rfl, by decide +kernel, by decide +kernel⟩
abbrev s__law_kept_by : Stmt := top 20
theorem sc__law_kept_by : FnScope ["_law_log", "_law_said_here", "_law_pack", "_law_marks", "_law_key"] ["_law_log"] (defScope s__law_kept_by) := ⟨rfl, rfl, rfl, by decide +kernel, rfl, by decide +kernel, by decide +kernel⟩
abbrev s__law_right : Stmt := top 21
theorem sc__law_right : FnScope ["_law_log", "_law_told"] ["_law_log"] (defScope s__law_right) := ⟨rfl, rfl, rfl, by decide +kernel, rfl, by decide +kernel, by decide +kernel⟩
abbrev s_law : Stmt := top 22
theorem sc_law : FnScope ["_law_script", "_law_state", "_law_pool_here", "_law_letters_here", "_law_log", "_law_k", "_law_deed_here", "_law_at", "_law_logs", "_law_stands", "_law_one"] ["_law_script"] (defScope s_law) := ⟨rfl, rfl, rfl, by decide +kernel, rfl, by decide +kernel, by decide +kernel⟩
structure Tx (K : PySem.W.Frag) (mg : Str → Option Value) (base : Heap) : Prop where
  cl_Left : Cls K (He.ga K "Left")
  gc_Left : mg "Left" = some (.ref (He.ga K "Left"))
  na_Left_letters_said : NoAttr K (He.ga K "Left") "letters_said"
  na_Left_hands_said : NoAttr K (He.ga K "Left") "hands_said"
  na_Left_reads_said : NoAttr K (He.ga K "Left") "reads_said"
  cl_LetterDeed : Cls K (He.ga K "LetterDeed")
  gc_LetterDeed : mg "LetterDeed" = some (.ref (He.ga K "LetterDeed"))
  na_LetterDeed_deed_told : NoAttr K (He.ga K "LetterDeed") "deed_told"
  me_LetterDeed_shelf_in : Meth K (He.ga K "LetterDeed") "shelf_in" (He.fAd K ("LetterDeed", some "shelf_in"))
  me_LetterDeed_says : Meth K (He.ga K "LetterDeed") "says" (He.fAd K ("LetterDeed", some "says"))
  cl_HandDeed : Cls K (He.ga K "HandDeed")
  gc_HandDeed : mg "HandDeed" = some (.ref (He.ga K "HandDeed"))
  na_HandDeed_deed_told : NoAttr K (He.ga K "HandDeed") "deed_told"
  me_HandDeed_shelf_in : Meth K (He.ga K "HandDeed") "shelf_in" (He.fAd K ("HandDeed", some "shelf_in"))
  me_HandDeed_says : Meth K (He.ga K "HandDeed") "says" (He.fAd K ("HandDeed", some "says"))
  cl_ReadDeed : Cls K (He.ga K "ReadDeed")
  gc_ReadDeed : mg "ReadDeed" = some (.ref (He.ga K "ReadDeed"))
  na_ReadDeed_deed_told : NoAttr K (He.ga K "ReadDeed") "deed_told"
  me_ReadDeed_shelf_in : Meth K (He.ga K "ReadDeed") "shelf_in" (He.fAd K ("ReadDeed", some "shelf_in"))
  me_ReadDeed_says : Meth K (He.ga K "ReadDeed") "says" (He.fAd K ("ReadDeed", some "says"))
  mk_LetterDeed : Mk K (He.ga K "LetterDeed") (He.fAd K ("LetterDeed", some "__init__"))
  mk_ReadDeed : Mk K (He.ga K "ReadDeed") (He.fAd K ("ReadDeed", some "__init__"))
  mk_HandDeed : Mk K (He.ga K "HandDeed") (He.fAd K ("HandDeed", some "__init__"))
  mk_Left : Mk K (He.ga K "Left") (He.fAd K ("Left", some "__init__"))
  me_LetterDeed_leave_in : Meth K (He.ga K "LetterDeed") "leave_in" (He.fAd K ("LetterDeed", some "leave_in"))
  me_HandDeed_leave_in : Meth K (He.ga K "HandDeed") "leave_in" (He.fAd K ("HandDeed", some "leave_in"))
  me_ReadDeed_leave_in : Meth K (He.ga K "ReadDeed") "leave_in" (He.fAd K ("ReadDeed", some "leave_in"))
  m_tuple : mg "tuple" = none
  m_sorted : mg "sorted" = none
  m_enumerate : mg "enumerate" = none
  m_range : mg "range" = none
  m_len : mg "len" = none
  m_repr : mg "repr" = none
  m_all : mg "all" = none
structure Ds (K : PySem.W.Frag) (mg : Str → Option Value) where
  Left_init : Dm K "Left" "__init__" "Left.__init__" s_Left_init ["self"]
  LetterDeed_init : Dm K "LetterDeed" "__init__" "LetterDeed.__init__" s_LetterDeed_init ["self", "deed"]
  LetterDeed_shelf_in : Dm K "LetterDeed" "shelf_in" "LetterDeed.shelf_in" s_LetterDeed_shelf_in ["self", "left"]
  LetterDeed_says : Dm K "LetterDeed" "says" "LetterDeed.says" s_LetterDeed_says ["self"]
  LetterDeed_leave_in : Dm K "LetterDeed" "leave_in" "LetterDeed.leave_in" s_LetterDeed_leave_in ["self", "left"]
  HandDeed_init : Dm K "HandDeed" "__init__" "LetterDeed.__init__" s_HandDeed_init ["self", "deed"]
  HandDeed_shelf_in : Dm K "HandDeed" "shelf_in" "HandDeed.shelf_in" s_HandDeed_shelf_in ["self", "left"]
  HandDeed_says : Dm K "HandDeed" "says" "HandDeed.says" s_HandDeed_says ["self"]
  HandDeed_leave_in : Dm K "HandDeed" "leave_in" "LetterDeed.leave_in" s_HandDeed_leave_in ["self", "left"]
  ReadDeed_init : Dm K "ReadDeed" "__init__" "LetterDeed.__init__" s_ReadDeed_init ["self", "deed"]
  ReadDeed_shelf_in : Dm K "ReadDeed" "shelf_in" "ReadDeed.shelf_in" s_ReadDeed_shelf_in ["self", "left"]
  ReadDeed_says : Dm K "ReadDeed" "says" "ReadDeed.says" s_ReadDeed_says ["self"]
  ReadDeed_leave_in : Dm K "ReadDeed" "leave_in" "LetterDeed.leave_in" s_ReadDeed_leave_in ["self", "left"]
  made : Df K mg "made" s_made ["deed"]
  left_by : Df K mg "left_by" s_left_by ["log"]
  pack_of : Df K mg "pack_of" s_pack_of ["log"]
  marks_of : Df K mg "marks_of" s_marks_of ["log"]
  reads_of : Df K mg "reads_of" s_reads_of ["log"]
  _law_start : Df K mg "_law_start" s__law_start ["_law_script"]
  _law_take : Df K mg "_law_take" s__law_take ["_law_state", "_law_many"]
  _law_name : Df K mg "_law_name" s__law_name ["_law_state"]
  _law_pool : Df K mg "_law_pool" s__law_pool ["_law_state", "_law_many"]
  _law_of : Df K mg "_law_of" s__law_of ["_law_state", "_law_some"]
  _law_names : Df K mg "_law_names" s__law_names ["_law_state", "_law_many"]
  _law_letters : Df K mg "_law_letters" s__law_letters ["_law_state", "_law_pool_here", "_law_many"]
  _law_deed : Df K mg "_law_deed" s__law_deed ["_law_state", "_law_pool_here", "_law_letters_here"]
  _law_said : Df K mg "_law_said" s__law_said ["_law_log"]
  _law_kept_by : Df K mg "_law_kept_by" s__law_kept_by ["_law_log"]
  _law_right : Df K mg "_law_right" s__law_right ["_law_log"]
  law : Df K mg "law" s_law ["_law_script"]
/-! ### the head -/
def df_Left_init : He.DefD := ⟨("Left", some "__init__"), "__init__", "Left.__init__", defArgs s_Left_init, defBody s_Left_init, defScope s_Left_init, [], []⟩
def df_LetterDeed_init : He.DefD := ⟨("LetterDeed", some "__init__"), "__init__", "LetterDeed.__init__", defArgs s_LetterDeed_init, defBody s_LetterDeed_init, defScope s_LetterDeed_init, [], []⟩
def df_LetterDeed_shelf_in : He.DefD := ⟨("LetterDeed", some "shelf_in"), "shelf_in", "LetterDeed.shelf_in", defArgs s_LetterDeed_shelf_in, defBody s_LetterDeed_shelf_in, defScope s_LetterDeed_shelf_in, [], []⟩
def df_LetterDeed_says : He.DefD := ⟨("LetterDeed", some "says"), "says", "LetterDeed.says", defArgs s_LetterDeed_says, defBody s_LetterDeed_says, defScope s_LetterDeed_says, [], []⟩
def df_LetterDeed_leave_in : He.DefD := ⟨("LetterDeed", some "leave_in"), "leave_in", "LetterDeed.leave_in", defArgs s_LetterDeed_leave_in, defBody s_LetterDeed_leave_in, defScope s_LetterDeed_leave_in, [], []⟩
def df_HandDeed_init : He.DefD := ⟨("HandDeed", some "__init__"), "__init__", "LetterDeed.__init__", defArgs s_HandDeed_init, defBody s_HandDeed_init, defScope s_HandDeed_init, [], []⟩
def df_HandDeed_shelf_in : He.DefD := ⟨("HandDeed", some "shelf_in"), "shelf_in", "HandDeed.shelf_in", defArgs s_HandDeed_shelf_in, defBody s_HandDeed_shelf_in, defScope s_HandDeed_shelf_in, [], []⟩
def df_HandDeed_says : He.DefD := ⟨("HandDeed", some "says"), "says", "HandDeed.says", defArgs s_HandDeed_says, defBody s_HandDeed_says, defScope s_HandDeed_says, [], []⟩
def df_HandDeed_leave_in : He.DefD := ⟨("HandDeed", some "leave_in"), "leave_in", "LetterDeed.leave_in", defArgs s_HandDeed_leave_in, defBody s_HandDeed_leave_in, defScope s_HandDeed_leave_in, [], []⟩
def df_ReadDeed_init : He.DefD := ⟨("ReadDeed", some "__init__"), "__init__", "LetterDeed.__init__", defArgs s_ReadDeed_init, defBody s_ReadDeed_init, defScope s_ReadDeed_init, [], []⟩
def df_ReadDeed_shelf_in : He.DefD := ⟨("ReadDeed", some "shelf_in"), "shelf_in", "ReadDeed.shelf_in", defArgs s_ReadDeed_shelf_in, defBody s_ReadDeed_shelf_in, defScope s_ReadDeed_shelf_in, [], []⟩
def df_ReadDeed_says : He.DefD := ⟨("ReadDeed", some "says"), "says", "ReadDeed.says", defArgs s_ReadDeed_says, defBody s_ReadDeed_says, defScope s_ReadDeed_says, [], []⟩
def df_ReadDeed_leave_in : He.DefD := ⟨("ReadDeed", some "leave_in"), "leave_in", "LetterDeed.leave_in", defArgs s_ReadDeed_leave_in, defBody s_ReadDeed_leave_in, defScope s_ReadDeed_leave_in, [], []⟩
def df_made : He.DefD := ⟨("made", none), "made", "made", defArgs s_made, defBody s_made, defScope s_made, [], []⟩
def df_left_by : He.DefD := ⟨("left_by", none), "left_by", "left_by", defArgs s_left_by, defBody s_left_by, defScope s_left_by, [], []⟩
def df_pack_of : He.DefD := ⟨("pack_of", none), "pack_of", "pack_of", defArgs s_pack_of, defBody s_pack_of, defScope s_pack_of, [], []⟩
def df_marks_of : He.DefD := ⟨("marks_of", none), "marks_of", "marks_of", defArgs s_marks_of, defBody s_marks_of, defScope s_marks_of, [], []⟩
def df_reads_of : He.DefD := ⟨("reads_of", none), "reads_of", "reads_of", defArgs s_reads_of, defBody s_reads_of, defScope s_reads_of, [], []⟩
def df__law_start : He.DefD := ⟨("_law_start", none), "_law_start", "_law_start", defArgs s__law_start, defBody s__law_start, defScope s__law_start, [], []⟩
def df__law_take : He.DefD := ⟨("_law_take", none), "_law_take", "_law_take", defArgs s__law_take, defBody s__law_take, defScope s__law_take, [], []⟩
def df__law_name : He.DefD := ⟨("_law_name", none), "_law_name", "_law_name", defArgs s__law_name, defBody s__law_name, defScope s__law_name, [], []⟩
def df__law_pool : He.DefD := ⟨("_law_pool", none), "_law_pool", "_law_pool", defArgs s__law_pool, defBody s__law_pool, defScope s__law_pool, [], []⟩
def df__law_of : He.DefD := ⟨("_law_of", none), "_law_of", "_law_of", defArgs s__law_of, defBody s__law_of, defScope s__law_of, [], []⟩
def df__law_names : He.DefD := ⟨("_law_names", none), "_law_names", "_law_names", defArgs s__law_names, defBody s__law_names, defScope s__law_names, [], []⟩
def df__law_letters : He.DefD := ⟨("_law_letters", none), "_law_letters", "_law_letters", defArgs s__law_letters, defBody s__law_letters, defScope s__law_letters, [], []⟩
def df__law_deed : He.DefD := ⟨("_law_deed", none), "_law_deed", "_law_deed", defArgs s__law_deed, defBody s__law_deed, defScope s__law_deed, [], []⟩
def df__law_said : He.DefD := ⟨("_law_said", none), "_law_said", "_law_said", defArgs s__law_said, defBody s__law_said, defScope s__law_said, [], []⟩
def df__law_kept_by : He.DefD := ⟨("_law_kept_by", none), "_law_kept_by", "_law_kept_by", defArgs s__law_kept_by, defBody s__law_kept_by, defScope s__law_kept_by, [], []⟩
def df__law_right : He.DefD := ⟨("_law_right", none), "_law_right", "_law_right", defArgs s__law_right, defBody s__law_right, defScope s__law_right, [], []⟩
def df_law : He.DefD := ⟨("law", none), "law", "law", defArgs s_law, defBody s_law, defScope s_law, [], []⟩
def fn : List He.DefD := [df_Left_init,
  df_LetterDeed_init,
  df_LetterDeed_shelf_in,
  df_LetterDeed_says,
  df_LetterDeed_leave_in,
  df_HandDeed_init,
  df_HandDeed_shelf_in,
  df_HandDeed_says,
  df_HandDeed_leave_in,
  df_ReadDeed_init,
  df_ReadDeed_shelf_in,
  df_ReadDeed_says,
  df_ReadDeed_leave_in,
  df_made,
  df_left_by,
  df_pack_of,
  df_marks_of,
  df_reads_of,
  df__law_start,
  df__law_take,
  df__law_name,
  df__law_pool,
  df__law_of,
  df__law_names,
  df__law_letters,
  df__law_deed,
  df__law_said,
  df__law_kept_by,
  df__law_right,
  df_law]
def fa : List He.Fa := [.glo "made", .glo "left_by", .glo "pack_of", .glo "marks_of", .glo "reads_of", .glo "_law_start", .glo "_law_take", .glo "_law_name", .glo "_law_pool", .glo "_law_of", .glo "_law_names", .glo "_law_letters", .glo "_law_deed", .glo "_law_said", .glo "_law_kept_by", .glo "_law_right", .glo "law", .glo "Left", .cls "Left", .noat "Left" "letters_said", .noat "Left" "hands_said", .noat "Left" "reads_said", .glo "LetterDeed", .cls "LetterDeed", .noat "LetterDeed" "deed_told", .meth "LetterDeed" "shelf_in", .meth "LetterDeed" "says", .glo "HandDeed", .cls "HandDeed", .noat "HandDeed" "deed_told", .meth "HandDeed" "shelf_in", .meth "HandDeed" "says", .glo "ReadDeed", .cls "ReadDeed", .noat "ReadDeed" "deed_told", .meth "ReadDeed" "shelf_in", .meth "ReadDeed" "says", .mkr "LetterDeed", .mkr "ReadDeed", .mkr "HandDeed", .mkr "Left", .meth "LetterDeed" "leave_in", .meth "HandDeed" "leave_in", .meth "ReadDeed" "leave_in", .free "tuple", .free "sorted", .free "enumerate", .free "range", .free "len", .free "repr", .free "all", .free lamDef]
abbrev R : PySem.W.OpenRow := PySem.W.OpenLaw.row PySem.Challenge.rw_answertrees_k49_what_a_log_leaves
abbrev hk : PySem.W.Hook := He.hookD 4 fa fn
def ob (s : PySem.W.SharedT) : He.AlD := He.obsDG 4 fa fn (HandSHeadRun.getT s)
theorem ob_eq (s : PySem.W.SharedT) : ob s = hk.obs s.abs := He.obsDG_eq (HandSHeadRun.getT_eq s)
def loose : List Str := ["Left", "LetterDeed", "HandDeed", "ReadDeed", "made", "left_by", "pack_of", "marks_of", "reads_of", "_law_start", "_law_take", "_law_name", "_law_pool", "_law_of", "_law_names", "_law_letters", "_law_deed", "_law_said", "_law_kept_by", "_law_right"]
theorem run (w : World) : HandSHeadRun.RunEq R (PySem.W.view R.prog [22]) hk ob 4000 loose w := by
  intro os
  kernel_rfl
section
variable {P : Program} {w : World} {K : PySem.W.Frag} {mg : Str → Option Value} {base : Heap}
inductive Dd where
  | come (l : Lr)
  | go (l : Lr)
  | join (a b : Str)
  | split (a : Str)
  | free (a : Str)
  | read (a : Str)
  | unread (a : Str)
def ddD : Dd → D
  | .come l => .tuple [.str (Str.ofString "come"), lrD l]
  | .go l => .tuple [.str (Str.ofString "go"), lrD l]
  | .join a b => .tuple [.str (Str.ofString "join"), .str a, .str b]
  | .split a => .tuple [.str (Str.ofString "split"), .str a]
  | .free a => .tuple [.str (Str.ofString "free"), .str a]
  | .read a => .tuple [.str (Str.ofString "read"), .str a]
  | .unread a => .tuple [.str (Str.ofString "unread"), .str a]
/-- what a log leaves: letters, hands, reads said -/
structure Lf where
  L : List (Lr × Bool)
  h : List (Str × Bool × Option Str)
  r : List (Str × Bool)
def ltK (L : List (Lr × Bool)) : KyD := L.map fun p => (lrD p.1, .dat (.bool p.2))
def hdV (q : Bool × Option Str) : D := .tuple [.bool q.1, optD q.2]
def hdS (h : List (Str × Bool × Option Str)) : SD := mpA hdV h
def rdS (r : List (Str × Bool)) : SD := mpA .bool r
def lfO (C : Addr) (n : Nat) : Cell := .obj C [("letters_said", .cel n), ("hands_said", .cel (n + 1)), ("reads_said", .cel (n + 2))]
def lfC (w : World) (C : Addr) (n : Nat) (x : Lf) : List Cell := [lfO C n, kdC w (ltK x.L), dctS (hdS x.h), dctS (rdS x.r)]
abbrev as_Left_init (P : Program) (w : World) (K : PySem.W.Frag) : AS := fun args cs Φ => args = [.cel 0] ∧ cs = [.obj (He.ga K "Left") []] ∧ Φ (.dat .none) (lfC w (He.ga K "Left") 1 ⟨[], [], []⟩)
theorem ok_Left_init (T : Tx K mg base) (S : Ds K mg) : FnOk P w K mg base CX0 1 (He.fAd K ("Left", some "__init__")) S.Left_init.fd ["self"] (conc K (as_Left_init P w K)) := by
  refine fn_absE S.Left_init.F sc_Left_init (by rintro _ _ _ ⟨rfl, _⟩; rfl) (fun cdv A outer s H E hr => ?_)
  refine ⟨_, (pss_cons (ks_fld (K := K) rfl (pv 0) (pe_knew (w := w) rfl) rfl)
      (pss_cons (ks_fld (K := K) rfl (pv 0) pe_dnewK rfl)
      (pss_one (ks_fld (K := K) rfl (pv 0) pe_dnewK rfl)))), ?_⟩
  rintro args cs Φ ⟨rfl, rfl, h⟩
  show wpS K _ [some (.cel 0)] [.obj (He.ga K "Left") []] _
  refine ws_seq (ws_fldN (ks := []) rfl rfl rfl (by decide) (by decide) T.cl_Left T.na_Left_letters_said (we_knew ⟨rfl, ?_⟩))
  refine ws_seq (ws_fldN (ks := [Str.ofString "letters_said"]) rfl rfl rfl (by decide +kernel) (by decide) T.cl_Left T.na_Left_hands_said (we_dnew ⟨rfl, ?_⟩))
  exact ws_fldN (ks := [Str.ofString "letters_said", Str.ofString "hands_said"]) rfl rfl rfl (by decide +kernel) (by decide) T.cl_Left T.na_Left_reads_said (we_dnew ⟨rfl, h⟩)
def dgC (C : Addr) (d : D) : Cell := .obj C [("deed_told", .dat d)]
abbrev as_LetterDeed_init (P : Program) (w : World) (K : PySem.W.Frag) : AS := fun args cs Φ => ∃ d, args = [.cel 0, .dat d] ∧ cs = [.obj (He.ga K "LetterDeed") []] ∧ Φ (.dat .none) [dgC (He.ga K "LetterDeed") d]
theorem ok_LetterDeed_init (T : Tx K mg base) (S : Ds K mg) : FnOk P w K mg base CX0 1 (He.fAd K ("LetterDeed", some "__init__")) S.LetterDeed_init.fd ["self", "deed"] (conc K (as_LetterDeed_init P w K)) := by
  refine fn_absE S.LetterDeed_init.F sc_LetterDeed_init (by rintro _ _ _ ⟨_, rfl, _⟩; rfl) (fun cdv A outer s H E hr => ?_)
  refine ⟨_, (pss_one (ks_fld (K := K) rfl (pv 0) (pv 1) rfl)), ?_⟩
  rintro args cs Φ ⟨d, rfl, rfl, h⟩
  show wpS K _ [some (.cel 0), some (.dat d)] [.obj (He.ga K "LetterDeed") []] _
  exact ws_fldN (ks := []) rfl rfl rfl (by decide) (by decide) T.cl_LetterDeed T.na_LetterDeed_deed_told (we_var rfl ⟨rfl, h⟩)
abbrev as_LetterDeed_shelf_in (P : Program) (w : World) (K : PySem.W.Frag) : AS := fun args cs Φ => ∃ d x, args = [.cel 0, .cel 1] ∧ cs = dgC (He.ga K "LetterDeed") d :: lfC w (He.ga K "Left") 2 x ∧ Φ (.cel 2) cs
theorem ok_LetterDeed_shelf_in (T : Tx K mg base) (S : Ds K mg) : FnOk P w K mg base CX0 1 (He.fAd K ("LetterDeed", some "shelf_in")) S.LetterDeed_shelf_in.fd ["self", "left"] (conc K (as_LetterDeed_shelf_in P w K)) := by
  refine fn_absE S.LetterDeed_shelf_in.F sc_LetterDeed_shelf_in (by rintro _ _ _ ⟨_, _, rfl, _⟩; rfl) (fun cdv A outer s H E hr => ?_)
  refine ⟨_, (pss_one (ps_ret (kp_fld (K := K) rfl (pv 1) rfl))), ?_⟩
  rintro args cs Φ ⟨d, x, rfl, rfl, h⟩
  show wpS K _ [some (.cel 0), some (.cel 1)] (dgC (He.ga K "LetterDeed") d :: lfC w (He.ga K "Left") 2 x) _
  exact ws_ret (we_fldG (ks := [Str.ofString "letters_said", Str.ofString "hands_said", Str.ofString "reads_said"]) rfl rfl (by decide +kernel) rfl (j := 0) rfl T.cl_Left T.na_Left_letters_said h)
def isLt (d : Dd) (l : Lr) (b : Bool) : Prop := (d = .come l ∧ b = true) ∨ (d = .go l ∧ b = false)
abbrev as_LetterDeed_says (P : Program) (w : World) (K : PySem.W.Frag) : AS := fun args cs Φ => ∃ d l b, args = [.cel 0] ∧ cs = [dgC (He.ga K "LetterDeed") (ddD d)] ∧ isLt d l b ∧ Φ (.dat (.bool b)) cs
theorem ok_LetterDeed_says (T : Tx K mg base) (S : Ds K mg) : FnOk P w K mg base CX0 1 (He.fAd K ("LetterDeed", some "says")) S.LetterDeed_says.fd ["self"] (conc K (as_LetterDeed_says P w K)) := by
  refine fn_abs S.LetterDeed_says.F sc_LetterDeed_says (by rintro _ _ _ ⟨_, _, _, rfl, _⟩; rfl) (fun cdv A outer s H E hr => ?_)
  refine ⟨_, (pss_one (ps_ret (pe_cmpR (ko_eq (K := K) rfl hr.units) (pe_ix (kx_ix (K := K) rfl) (kp_fld (K := K) rfl (pv 0) rfl) pe_int (fun _ _ => rfl)) pe_str (nomark _)))), ?_⟩
  rintro args cs Φ ⟨d, l, b, rfl, rfl, hd, h⟩
  show wpS K _ [some (.cel 0)] [dgC (He.ga K "LetterDeed") (ddD d)] _
  refine ws_ret (we_op (we_op (we_fldG (ks := [Str.ofString "deed_told"]) rfl rfl (by decide) rfl (j := 0) rfl T.cl_LetterDeed T.na_LetterDeed_deed_told ?_)))
  rcases hd with ⟨rfl, rfl⟩ | ⟨rfl, rfl⟩
  · walk_at "g"
    exact .inl ⟨_, rfl, rfl, h⟩
  · walk_at "g"
    exact .inl ⟨_, rfl, rfl, h⟩
theorem cb_dg {n : Nat} {C : Addr} {d : D} : CellB n (dgC C d) := fun p hp => by
  rw [List.mem_singleton.mp hp]
  trivial
theorem isLt_ix {d : Dd} {l : Lr} {b : Bool} (h : isLt d l b) : ∃ z, ddD d = .tuple [z, lrD l] := by
  rcases h with ⟨rfl, _⟩ | ⟨rfl, _⟩
  · exact ⟨_, rfl⟩
  · exact ⟨_, rfl⟩
theorem lr_ky_inj : ∀ a b : Lr, kyN (lrD a) = kyN (lrD b) → a = b := fun a b e => lr_inj (kyN_inj _ _ (lr_kyP a) (lr_kyP b) e)
theorem lt_put (L : List (Lr × Bool)) (l : Lr) (b : Bool) : ptY (ltK L) (lrD l) (.dat (.bool b)) = ltK (ptG L l b) := ptG_Y lrD (fun b => .dat (.bool b)) lr_ky_inj L l b
theorem lt_keys (L : List (Lr × Bool)) : ∀ p, p ∈ ltK L → KyOk p.1 := fun p hp => by
  obtain ⟨q, _, rfl⟩ := List.mem_map.mp hp
  exact lr_ky q.1
abbrev as_LetterDeed_leave_in (P : Program) (w : World) (K : PySem.W.Frag) : AS := fun args cs Φ => ∃ (d : Dd) (a : Lr) (b : Bool) (x : Lf), args = [.cel 0, .cel 1] ∧ cs = dgC (He.ga K "LetterDeed") (ddD d) :: lfC w (He.ga K "Left") 2 x ∧ isLt d a b ∧ x.L.length ≤ 1000 ∧ Φ (.dat .none) (dgC (He.ga K "LetterDeed") (ddD d) :: lfC w (He.ga K "Left") 2 { x with L := ptG x.L a b })
theorem ok_LetterDeed_leave_in (T : Tx K mg base) (S : Ds K mg) : FnOk P w K mg base CX0 2 (He.fAd K ("LetterDeed", some "leave_in")) S.LetterDeed_leave_in.fd ["self", "left"] (conc K (as_LetterDeed_leave_in P w K)) := by
  refine fn_abs S.LetterDeed_leave_in.F sc_LetterDeed_leave_in (by rintro _ _ _ ⟨_, _, _, _, rfl, _⟩; rfl) (fun cdv A outer s H E hr => ?_)
  refine ⟨_, (pss_cons (ps_set (i := 2) sc_LetterDeed_leave_in.nd rfl (Or.inl rfl) (kp_meth (pe_meth (pv 0) T.cl_LetterDeed T.me_LetterDeed_shelf_in (ok_LetterDeed_shelf_in (P := P) (w := w) T S) (hr.mono (by decide)) S.LetterDeed_shelf_in.b .nil pass0 (pa_cons (pv 1) pa_nil))))
      (pss_one (ps_kput (K := K) (w := w) rfl rfl hr.units (pv 2) (pe_ix (kx_ix (K := K) rfl) (kp_fld (K := K) rfl (pv 0) rfl) pe_int (fun _ _ => rfl)) (kp_meth (pe_meth0 (pv 0) T.cl_LetterDeed T.me_LetterDeed_says (ok_LetterDeed_says (P := P) (w := w) T S) (hr.mono (by decide)) S.LetterDeed_says.b .nil pass0)) rfl))), ?_⟩
  rintro args cs Φ ⟨d, a, b, x, rfl, rfl, hd, hl, h⟩
  show wpS K _ [some (.cel 0), some (.cel 1), none] (dgC (He.ga K "LetterDeed") (ddD d) :: lfC w (He.ga K "Left") 2 x) _
  refine ws_seq (ws_asg (we_callI (wa_cons (we_obj (we_var rfl ⟨0, _, rfl, rfl, fld_no (ks := [Str.ofString "deed_told"]) rfl (by decide +kernel), wa_cons (we_var rfl (wa_nil ⟨fun y c => y = .cel 2 ∧ c = dgC (He.ga K "LetterDeed") (ddD d) :: lfC w (He.ga K "Left") 2 x, ⟨ddD d, x, rfl, rfl, rfl, rfl⟩, fun y c hy => ?_⟩))⟩)))))
  obtain ⟨rfl, rfl⟩ := hy
  refine wg_name ?_
  show wpS K _ [some (.cel 0), some (.cel 1), some (.cel 2)] (dgC (He.ga K "LetterDeed") (ddD d) :: lfC w (He.ga K "Left") 2 x) _
  refine ws_kput (we_call1 (wa_cons (we_obj (we_var rfl ⟨0, _, rfl, rfl, fld_no (ks := [Str.ofString "deed_told"]) rfl (by decide +kernel), wa_nil ⟨0, [], dgC (He.ga K "LetterDeed") (ddD d), fun y c => ∃ b2, y = .dat (.bool b2) ∧ c = [dgC (He.ga K "LetterDeed") (ddD d)] ∧ b2 = b, rfl, rfl, ?_, ⟨d, a, b, rfl, rfl, hd, _, rfl, rfl, rfl⟩, fun y c hy => ?_⟩⟩))))
  · exact cb_dg
  obtain ⟨b2, rfl, rfl, rfl⟩ := hy
  obtain ⟨z, hz⟩ := isLt_ix hd
  refine ⟨dgC (He.ga K "LetterDeed") (ddD d), cb_dg, .inl ⟨_, rfl, rfl, we_var rfl (we_op (we_fldG (ks := [Str.ofString "deed_told"]) rfl rfl (by decide) rfl (j := 0) rfl T.cl_LetterDeed T.na_LetterDeed_deed_told (we_int (wu_ixT (d := lrD a) (congrArg Vl.dat hz) rfl (atI_nat (j := 1) rfl) ?_))))⟩⟩
  refine ⟨2, ltK x.L, lrD a, rfl, rfl, rfl, lt_keys _, lr_ky a, by rw [show (ltK x.L).length = x.L.length from List.length_map ..]; omega, .inl ⟨_, rfl, rfl, ?_⟩⟩
  rw [lt_put]
  exact h
abbrev as_HandDeed_init (P : Program) (w : World) (K : PySem.W.Frag) : AS := fun args cs Φ => ∃ d, args = [.cel 0, .dat d] ∧ cs = [.obj (He.ga K "HandDeed") []] ∧ Φ (.dat .none) [dgC (He.ga K "HandDeed") d]
theorem ok_HandDeed_init (T : Tx K mg base) (S : Ds K mg) : FnOk P w K mg base CX0 1 (He.fAd K ("HandDeed", some "__init__")) S.HandDeed_init.fd ["self", "deed"] (conc K (as_HandDeed_init P w K)) := by
  refine fn_absE S.HandDeed_init.F sc_HandDeed_init (by rintro _ _ _ ⟨_, rfl, _⟩; rfl) (fun cdv A outer s H E hr => ?_)
  refine ⟨_, (pss_one (ks_fld (K := K) rfl (pv 0) (pv 1) rfl)), ?_⟩
  rintro args cs Φ ⟨d, rfl, rfl, h⟩
  show wpS K _ [some (.cel 0), some (.dat d)] [.obj (He.ga K "HandDeed") []] _
  exact ws_fldN (ks := []) rfl rfl rfl (by decide) (by decide) T.cl_HandDeed T.na_HandDeed_deed_told (we_var rfl ⟨rfl, h⟩)
abbrev as_HandDeed_shelf_in (P : Program) (w : World) (K : PySem.W.Frag) : AS := fun args cs Φ => ∃ d x, args = [.cel 0, .cel 1] ∧ cs = dgC (He.ga K "HandDeed") d :: lfC w (He.ga K "Left") 2 x ∧ Φ (.cel 3) cs
theorem ok_HandDeed_shelf_in (T : Tx K mg base) (S : Ds K mg) : FnOk P w K mg base CX0 1 (He.fAd K ("HandDeed", some "shelf_in")) S.HandDeed_shelf_in.fd ["self", "left"] (conc K (as_HandDeed_shelf_in P w K)) := by
  refine fn_absE S.HandDeed_shelf_in.F sc_HandDeed_shelf_in (by rintro _ _ _ ⟨_, _, rfl, _⟩; rfl) (fun cdv A outer s H E hr => ?_)
  refine ⟨_, (pss_one (ps_ret (kp_fld (K := K) rfl (pv 1) rfl))), ?_⟩
  rintro args cs Φ ⟨d, x, rfl, rfl, h⟩
  show wpS K _ [some (.cel 0), some (.cel 1)] (dgC (He.ga K "HandDeed") d :: lfC w (He.ga K "Left") 2 x) _
  exact ws_ret (we_fldG (ks := [Str.ofString "letters_said", Str.ofString "hands_said", Str.ofString "reads_said"]) rfl rfl (by decide +kernel) rfl (j := 1) rfl T.cl_Left T.na_Left_hands_said h)
def isHd (d : Dd) (a : Str) (q : Bool × Option Str) : Prop := (∃ b, d = .join a b ∧ q = (true, some b)) ∨ (d = .split a ∧ q = (true, none)) ∨ (d = .free a ∧ q = (false, none))
abbrev as_HandDeed_says (P : Program) (w : World) (K : PySem.W.Frag) : AS := fun args cs Φ => ∃ d a q, args = [.cel 0] ∧ cs = [dgC (He.ga K "HandDeed") (ddD d)] ∧ isHd d a q ∧ Φ (.dat (hdV q)) cs
theorem ok_HandDeed_says (T : Tx K mg base) (S : Ds K mg) : FnOk P w K mg base CX0 1 (He.fAd K ("HandDeed", some "says")) S.HandDeed_says.fd ["self"] (conc K (as_HandDeed_says P w K)) := by
  refine fn_abs S.HandDeed_says.F sc_HandDeed_says (by rintro _ _ _ ⟨_, _, _, rfl, _⟩; rfl) (fun cdv A outer s H E hr => ?_)
  refine ⟨_, (pss_cons (ps_if (pt_cmpR (ko_eq (K := K) rfl hr.units) (pe_ix (kx_ix (K := K) rfl) (kp_fld (K := K) rfl (pv 0) rfl) pe_int (fun _ _ => rfl)) pe_str (nomark _)) (pss_one (ps_ret (pe_tup (pa_cons pe_bl (pa_cons (pe_ix (kx_ix (K := K) rfl) (kp_fld (K := K) rfl (pv 0) rfl) pe_int (fun _ _ => rfl)) pa_nil)))))
      pss_nil)
      (pss_one (ps_ret (pe_tup (pa_cons (pe_cmpR (ko_eq (K := K) rfl hr.units) (pe_ix (kx_ix (K := K) rfl) (kp_fld (K := K) rfl (pv 0) rfl) pe_int (fun _ _ => rfl)) pe_str (nomark _)) (pa_cons pe_non pa_nil)))))), ?_⟩
  rintro args cs Φ ⟨d, a, q, rfl, rfl, hd, h⟩
  show wpS K _ [some (.cel 0)] [dgC (He.ga K "HandDeed") (ddD d)] _
  refine ws_seq (ws_if (wt_test (we_op (we_op (we_fldG (ks := [Str.ofString "deed_told"]) rfl rfl (by decide) rfl (j := 0) rfl T.cl_HandDeed T.na_HandDeed_deed_told ?_)))))
  rcases hd with ⟨b, rfl, rfl⟩ | ⟨rfl, rfl⟩ | ⟨rfl, rfl⟩
  · walk_at "g"
    refine ⟨fun _ => ?_, fun hb => absurd hb (by decide +kernel)⟩
    walk_at "g"
    refine we_fldG (ks := [Str.ofString "deed_told"]) rfl rfl (by decide) rfl (j := 0) rfl T.cl_HandDeed T.na_HandDeed_deed_told ?_
    walk_at "g"
    exact .inl ⟨_, rfl, rfl, h⟩
  · walk_at "g"
    refine ⟨fun hb => absurd hb (by decide +kernel), fun _ => ws_next ?_⟩
    walk_at "g"
    refine we_fldG (ks := [Str.ofString "deed_told"]) rfl rfl (by decide) rfl (j := 0) rfl T.cl_HandDeed T.na_HandDeed_deed_told ?_
    walk_at "g"
    rw [decide_eq_true rfl]
    exact .inl ⟨_, rfl, rfl, h⟩
  · walk_at "g"
    refine ⟨fun hb => absurd hb (by decide +kernel), fun _ => ws_next ?_⟩
    walk_at "g"
    refine we_fldG (ks := [Str.ofString "deed_told"]) rfl rfl (by decide) rfl (j := 0) rfl T.cl_HandDeed T.na_HandDeed_deed_told ?_
    walk_at "g"
    rw [decide_eq_false (by decide +kernel)]
    exact .inl ⟨_, rfl, rfl, h⟩
theorem isHd_ix {d : Dd} {a : Str} {q : Bool × Option Str} (h : isHd d a q) : ∃ z zr, ddD d = .tuple (z :: .str a :: zr) := by
  rcases h with ⟨b, rfl, _⟩ | ⟨rfl, _⟩ | ⟨rfl, _⟩
  · exact ⟨_, _, rfl⟩
  · exact ⟨_, _, rfl⟩
  · exact ⟨_, _, rfl⟩
abbrev as_HandDeed_leave_in (P : Program) (w : World) (K : PySem.W.Frag) : AS := fun args cs Φ => ∃ (d : Dd) (a : Str) (b : (Bool × Option Str)) (x : Lf), args = [.cel 0, .cel 1] ∧ cs = dgC (He.ga K "HandDeed") (ddD d) :: lfC w (He.ga K "Left") 2 x ∧ isHd d a b ∧ x.h.length ≤ 1000 ∧ Φ (.dat .none) (dgC (He.ga K "HandDeed") (ddD d) :: lfC w (He.ga K "Left") 2 { x with h := ptG x.h a b })
theorem ok_HandDeed_leave_in (T : Tx K mg base) (S : Ds K mg) : FnOk P w K mg base CX0 2 (He.fAd K ("HandDeed", some "leave_in")) S.HandDeed_leave_in.fd ["self", "left"] (conc K (as_HandDeed_leave_in P w K)) := by
  refine fn_abs S.HandDeed_leave_in.F sc_HandDeed_leave_in (by rintro _ _ _ ⟨_, _, _, _, rfl, _⟩; rfl) (fun cdv A outer s H E hr => ?_)
  refine ⟨_, (pss_cons (ps_set (i := 2) sc_HandDeed_leave_in.nd rfl (Or.inl rfl) (kp_meth (pe_meth (pv 0) T.cl_HandDeed T.me_HandDeed_shelf_in (ok_HandDeed_shelf_in (P := P) (w := w) T S) (hr.mono (by decide)) S.HandDeed_shelf_in.b .nil pass0 (pa_cons (pv 1) pa_nil))))
      (pss_one (ps_dput (hu_of hr) (pv 2) (pe_ix (kx_ix (K := K) rfl) (kp_fld (K := K) rfl (pv 0) rfl) pe_int (fun _ _ => rfl)) (kp_meth (pe_meth0 (pv 0) T.cl_HandDeed T.me_HandDeed_says (ok_HandDeed_says (P := P) (w := w) T S) (hr.mono (by decide)) S.HandDeed_says.b .nil pass0)) rfl))), ?_⟩
  rintro args cs Φ ⟨d, a, b, x, rfl, rfl, hd, hl, h⟩
  show wpS K _ [some (.cel 0), some (.cel 1), none] (dgC (He.ga K "HandDeed") (ddD d) :: lfC w (He.ga K "Left") 2 x) _
  refine ws_seq (ws_asg (we_callI (wa_cons (we_obj (we_var rfl ⟨0, _, rfl, rfl, fld_no (ks := [Str.ofString "deed_told"]) rfl (by decide +kernel), wa_cons (we_var rfl (wa_nil ⟨fun y c => y = .cel 3 ∧ c = dgC (He.ga K "HandDeed") (ddD d) :: lfC w (He.ga K "Left") 2 x, ⟨ddD d, x, rfl, rfl, rfl, rfl⟩, fun y c hy => ?_⟩))⟩)))))
  obtain ⟨rfl, rfl⟩ := hy
  refine wg_name ?_
  show wpS K _ [some (.cel 0), some (.cel 1), some (.cel 3)] (dgC (He.ga K "HandDeed") (ddD d) :: lfC w (He.ga K "Left") 2 x) _
  refine ws_dputS (we_call1 (wa_cons (we_obj (we_var rfl ⟨0, _, rfl, rfl, fld_no (ks := [Str.ofString "deed_told"]) rfl (by decide +kernel), wa_nil ⟨0, [], dgC (He.ga K "HandDeed") (ddD d), fun y c => ∃ b2, y = .dat (hdV b2) ∧ c = [dgC (He.ga K "HandDeed") (ddD d)] ∧ b2 = b, rfl, rfl, ?_, ⟨d, a, b, rfl, rfl, hd, _, rfl, rfl, rfl⟩, fun y c hy => ?_⟩⟩))))
  · exact cb_dg
  obtain ⟨b2, rfl, rfl, rfl⟩ := hy
  obtain ⟨z, zr, hz⟩ := isHd_ix hd
  refine ⟨dgC (He.ga K "HandDeed") (ddD d), cb_dg, .inl ⟨_, rfl, rfl, ⟨_, rfl, we_var rfl (we_op (we_fldG (ks := [Str.ofString "deed_told"]) rfl rfl (by decide) rfl (j := 0) rfl T.cl_HandDeed T.na_HandDeed_deed_told (we_int (wu_ixT (d := .str a) (congrArg Vl.dat hz) rfl (atI_nat (j := 1) rfl) ?_))))⟩⟩⟩
  refine ⟨3, hdS x.h, a, rfl, rfl, rfl, by rw [show (hdS x.h).length = x.h.length from List.length_map ..]; omega, .inl ⟨_, rfl, rfl, ?_⟩⟩
  rw [show ptS (hdS x.h) a (hdV b2) = hdS (ptG x.h a b2) from ptG_S hdV ..]
  exact h
abbrev as_ReadDeed_init (P : Program) (w : World) (K : PySem.W.Frag) : AS := fun args cs Φ => ∃ d, args = [.cel 0, .dat d] ∧ cs = [.obj (He.ga K "ReadDeed") []] ∧ Φ (.dat .none) [dgC (He.ga K "ReadDeed") d]
theorem ok_ReadDeed_init (T : Tx K mg base) (S : Ds K mg) : FnOk P w K mg base CX0 1 (He.fAd K ("ReadDeed", some "__init__")) S.ReadDeed_init.fd ["self", "deed"] (conc K (as_ReadDeed_init P w K)) := by
  refine fn_absE S.ReadDeed_init.F sc_ReadDeed_init (by rintro _ _ _ ⟨_, rfl, _⟩; rfl) (fun cdv A outer s H E hr => ?_)
  refine ⟨_, (pss_one (ks_fld (K := K) rfl (pv 0) (pv 1) rfl)), ?_⟩
  rintro args cs Φ ⟨d, rfl, rfl, h⟩
  show wpS K _ [some (.cel 0), some (.dat d)] [.obj (He.ga K "ReadDeed") []] _
  exact ws_fldN (ks := []) rfl rfl rfl (by decide) (by decide) T.cl_ReadDeed T.na_ReadDeed_deed_told (we_var rfl ⟨rfl, h⟩)
abbrev as_ReadDeed_shelf_in (P : Program) (w : World) (K : PySem.W.Frag) : AS := fun args cs Φ => ∃ d x, args = [.cel 0, .cel 1] ∧ cs = dgC (He.ga K "ReadDeed") d :: lfC w (He.ga K "Left") 2 x ∧ Φ (.cel 4) cs
theorem ok_ReadDeed_shelf_in (T : Tx K mg base) (S : Ds K mg) : FnOk P w K mg base CX0 1 (He.fAd K ("ReadDeed", some "shelf_in")) S.ReadDeed_shelf_in.fd ["self", "left"] (conc K (as_ReadDeed_shelf_in P w K)) := by
  refine fn_absE S.ReadDeed_shelf_in.F sc_ReadDeed_shelf_in (by rintro _ _ _ ⟨_, _, rfl, _⟩; rfl) (fun cdv A outer s H E hr => ?_)
  refine ⟨_, (pss_one (ps_ret (kp_fld (K := K) rfl (pv 1) rfl))), ?_⟩
  rintro args cs Φ ⟨d, x, rfl, rfl, h⟩
  show wpS K _ [some (.cel 0), some (.cel 1)] (dgC (He.ga K "ReadDeed") d :: lfC w (He.ga K "Left") 2 x) _
  exact ws_ret (we_fldG (ks := [Str.ofString "letters_said", Str.ofString "hands_said", Str.ofString "reads_said"]) rfl rfl (by decide +kernel) rfl (j := 2) rfl T.cl_Left T.na_Left_reads_said h)
def isRd (d : Dd) (a : Str) (b : Bool) : Prop := (d = .read a ∧ b = true) ∨ (d = .unread a ∧ b = false)
abbrev as_ReadDeed_says (P : Program) (w : World) (K : PySem.W.Frag) : AS := fun args cs Φ => ∃ d l b, args = [.cel 0] ∧ cs = [dgC (He.ga K "ReadDeed") (ddD d)] ∧ isRd d l b ∧ Φ (.dat (.bool b)) cs
theorem ok_ReadDeed_says (T : Tx K mg base) (S : Ds K mg) : FnOk P w K mg base CX0 1 (He.fAd K ("ReadDeed", some "says")) S.ReadDeed_says.fd ["self"] (conc K (as_ReadDeed_says P w K)) := by
  refine fn_abs S.ReadDeed_says.F sc_ReadDeed_says (by rintro _ _ _ ⟨_, _, _, rfl, _⟩; rfl) (fun cdv A outer s H E hr => ?_)
  refine ⟨_, (pss_one (ps_ret (pe_cmpR (ko_eq (K := K) rfl hr.units) (pe_ix (kx_ix (K := K) rfl) (kp_fld (K := K) rfl (pv 0) rfl) pe_int (fun _ _ => rfl)) pe_str (nomark _)))), ?_⟩
  rintro args cs Φ ⟨d, l, b, rfl, rfl, hd, h⟩
  show wpS K _ [some (.cel 0)] [dgC (He.ga K "ReadDeed") (ddD d)] _
  refine ws_ret (we_op (we_op (we_fldG (ks := [Str.ofString "deed_told"]) rfl rfl (by decide) rfl (j := 0) rfl T.cl_ReadDeed T.na_ReadDeed_deed_told ?_)))
  rcases hd with ⟨rfl, rfl⟩ | ⟨rfl, rfl⟩
  · walk_at "g"
    exact .inl ⟨_, rfl, rfl, h⟩
  · walk_at "g"
    exact .inl ⟨_, rfl, rfl, h⟩
theorem isRd_ix {d : Dd} {a : Str} {b : Bool} (h : isRd d a b) : ∃ z, ddD d = .tuple [z, .str a] := by
  rcases h with ⟨rfl, _⟩ | ⟨rfl, _⟩
  · exact ⟨_, rfl⟩
  · exact ⟨_, rfl⟩
abbrev as_ReadDeed_leave_in (P : Program) (w : World) (K : PySem.W.Frag) : AS := fun args cs Φ => ∃ (d : Dd) (a : Str) (b : Bool) (x : Lf), args = [.cel 0, .cel 1] ∧ cs = dgC (He.ga K "ReadDeed") (ddD d) :: lfC w (He.ga K "Left") 2 x ∧ isRd d a b ∧ x.r.length ≤ 1000 ∧ Φ (.dat .none) (dgC (He.ga K "ReadDeed") (ddD d) :: lfC w (He.ga K "Left") 2 { x with r := ptG x.r a b })
theorem ok_ReadDeed_leave_in (T : Tx K mg base) (S : Ds K mg) : FnOk P w K mg base CX0 2 (He.fAd K ("ReadDeed", some "leave_in")) S.ReadDeed_leave_in.fd ["self", "left"] (conc K (as_ReadDeed_leave_in P w K)) := by
  refine fn_abs S.ReadDeed_leave_in.F sc_ReadDeed_leave_in (by rintro _ _ _ ⟨_, _, _, _, rfl, _⟩; rfl) (fun cdv A outer s H E hr => ?_)
  refine ⟨_, (pss_cons (ps_set (i := 2) sc_ReadDeed_leave_in.nd rfl (Or.inl rfl) (kp_meth (pe_meth (pv 0) T.cl_ReadDeed T.me_ReadDeed_shelf_in (ok_ReadDeed_shelf_in (P := P) (w := w) T S) (hr.mono (by decide)) S.ReadDeed_shelf_in.b .nil pass0 (pa_cons (pv 1) pa_nil))))
      (pss_one (ps_dput (hu_of hr) (pv 2) (pe_ix (kx_ix (K := K) rfl) (kp_fld (K := K) rfl (pv 0) rfl) pe_int (fun _ _ => rfl)) (kp_meth (pe_meth0 (pv 0) T.cl_ReadDeed T.me_ReadDeed_says (ok_ReadDeed_says (P := P) (w := w) T S) (hr.mono (by decide)) S.ReadDeed_says.b .nil pass0)) rfl))), ?_⟩
  rintro args cs Φ ⟨d, a, b, x, rfl, rfl, hd, hl, h⟩
  show wpS K _ [some (.cel 0), some (.cel 1), none] (dgC (He.ga K "ReadDeed") (ddD d) :: lfC w (He.ga K "Left") 2 x) _
  refine ws_seq (ws_asg (we_callI (wa_cons (we_obj (we_var rfl ⟨0, _, rfl, rfl, fld_no (ks := [Str.ofString "deed_told"]) rfl (by decide +kernel), wa_cons (we_var rfl (wa_nil ⟨fun y c => y = .cel 4 ∧ c = dgC (He.ga K "ReadDeed") (ddD d) :: lfC w (He.ga K "Left") 2 x, ⟨ddD d, x, rfl, rfl, rfl, rfl⟩, fun y c hy => ?_⟩))⟩)))))
  obtain ⟨rfl, rfl⟩ := hy
  refine wg_name ?_
  show wpS K _ [some (.cel 0), some (.cel 1), some (.cel 4)] (dgC (He.ga K "ReadDeed") (ddD d) :: lfC w (He.ga K "Left") 2 x) _
  refine ws_dputS (we_call1 (wa_cons (we_obj (we_var rfl ⟨0, _, rfl, rfl, fld_no (ks := [Str.ofString "deed_told"]) rfl (by decide +kernel), wa_nil ⟨0, [], dgC (He.ga K "ReadDeed") (ddD d), fun y c => ∃ b2, y = .dat (.bool b2) ∧ c = [dgC (He.ga K "ReadDeed") (ddD d)] ∧ b2 = b, rfl, rfl, ?_, ⟨d, a, b, rfl, rfl, hd, _, rfl, rfl, rfl⟩, fun y c hy => ?_⟩⟩))))
  · exact cb_dg
  obtain ⟨b2, rfl, rfl, rfl⟩ := hy
  obtain ⟨z, hz⟩ := isRd_ix hd
  refine ⟨dgC (He.ga K "ReadDeed") (ddD d), cb_dg, .inl ⟨_, rfl, rfl, ⟨_, rfl, we_var rfl (we_op (we_fldG (ks := [Str.ofString "deed_told"]) rfl rfl (by decide) rfl (j := 0) rfl T.cl_ReadDeed T.na_ReadDeed_deed_told (we_int (wu_ixT (d := .str a) (congrArg Vl.dat hz) rfl (atI_nat (j := 1) rfl) ?_))))⟩⟩⟩
  refine ⟨4, rdS x.r, a, rfl, rfl, rfl, by rw [show (rdS x.r).length = x.r.length from List.length_map ..]; omega, .inl ⟨_, rfl, rfl, ?_⟩⟩
  rw [show ptS (rdS x.r) a (.bool b2) = rdS (ptG x.r a b2) from ptG_S .bool ..]
  exact h
def clD (K : PySem.W.Frag) : Dd → Addr
  | .come _ => He.ga K "LetterDeed"
  | .go _ => He.ga K "LetterDeed"
  | .join _ _ => He.ga K "HandDeed"
  | .split _ => He.ga K "HandDeed"
  | .free _ => He.ga K "HandDeed"
  | .read _ => He.ga K "ReadDeed"
  | .unread _ => He.ga K "ReadDeed"
def wdD : Dd → Str
  | .come _ => Str.ofString "come"
  | .go _ => Str.ofString "go"
  | .join _ _ => Str.ofString "join"
  | .split _ => Str.ofString "split"
  | .free _ => Str.ofString "free"
  | .read _ => Str.ofString "read"
  | .unread _ => Str.ofString "unread"
theorem dd_wd (d : Dd) : ∃ r, ddD d = .tuple (.str (wdD d) :: r) := by cases d <;> exact ⟨_, rfl⟩
theorem cl_L {K : PySem.W.Frag} {d : Dd} (h : wdD d ∈ [Str.ofString "come", Str.ofString "go"]) : clD K d = He.ga K "LetterDeed" := by
  cases d with
  | come l => rfl
  | go l => rfl
  | join a b => exact absurd h (by simp only [wdD]; decide +kernel)
  | split a => exact absurd h (by simp only [wdD]; decide +kernel)
  | free a => exact absurd h (by simp only [wdD]; decide +kernel)
  | read a => exact absurd h (by simp only [wdD]; decide +kernel)
  | unread a => exact absurd h (by simp only [wdD]; decide +kernel)
theorem cl_R {K : PySem.W.Frag} {d : Dd} (h : wdD d ∈ [Str.ofString "read", Str.ofString "unread"]) : clD K d = He.ga K "ReadDeed" := by
  cases d with
  | come l => exact absurd h (by simp only [wdD]; decide +kernel)
  | go l => exact absurd h (by simp only [wdD]; decide +kernel)
  | join a b => exact absurd h (by simp only [wdD]; decide +kernel)
  | split a => exact absurd h (by simp only [wdD]; decide +kernel)
  | free a => exact absurd h (by simp only [wdD]; decide +kernel)
  | read a => rfl
  | unread a => rfl
theorem cl_H {K : PySem.W.Frag} {d : Dd} (h : ¬ wdD d ∈ [Str.ofString "come", Str.ofString "go"]) (h2 : ¬ wdD d ∈ [Str.ofString "read", Str.ofString "unread"]) : clD K d = He.ga K "HandDeed" := by
  cases d with
  | come l => exact (h (by simp only [wdD]; decide +kernel)).elim
  | go l => exact (h (by simp only [wdD]; decide +kernel)).elim
  | join a b => rfl
  | split a => rfl
  | free a => rfl
  | read a => exact (h2 (by simp only [wdD]; decide +kernel)).elim
  | unread a => exact (h2 (by simp only [wdD]; decide +kernel)).elim
abbrev as_made (P : Program) (w : World) (K : PySem.W.Frag) : AS := fun args cs Φ => ∃ d, args = [.dat (ddD d)] ∧ cs = [] ∧ Φ (.cel 0) [dgC (clD K d) (ddD d)]
theorem ok_made (T : Tx K mg base) (S : Ds K mg) : FnOk P w K mg base CX0 3 S.made.f S.made.fd ["deed"] (conc K (as_made P w K)) := by
  refine fn_abs S.made.F sc_made (by rintro _ _ _ ⟨_, rfl, _⟩; rfl) (fun cdv A outer s H E hr => ?_)
  refine ⟨_, (pss_cons (ps_if (pt_cmpR (ko_in (K := K) rfl hr.units) (pe_ix (kx_ix (K := K) rfl) (pv 0) pe_int (fun _ _ => rfl)) (pe_tup (pa_cons pe_str (pa_cons pe_str pa_nil))) rfl) (pss_one (ps_ret (pe_make T.mk_LetterDeed (ok_LetterDeed_init (P := P) (w := w) T S) (hr.mono (by decide)) (by rfl) T.gc_LetterDeed S.LetterDeed_init.b .nil pass0 (pa_cons (pv 0) pa_nil))))
      pss_nil)
      (pss_cons (ps_if (pt_cmpR (ko_in (K := K) rfl hr.units) (pe_ix (kx_ix (K := K) rfl) (pv 0) pe_int (fun _ _ => rfl)) (pe_tup (pa_cons pe_str (pa_cons pe_str pa_nil))) rfl) (pss_one (ps_ret (pe_make T.mk_ReadDeed (ok_ReadDeed_init (P := P) (w := w) T S) (hr.mono (by decide)) (by rfl) T.gc_ReadDeed S.ReadDeed_init.b .nil pass0 (pa_cons (pv 0) pa_nil))))
      pss_nil)
      (pss_one (ps_ret (pe_make T.mk_HandDeed (ok_HandDeed_init (P := P) (w := w) T S) (hr.mono (by decide)) (by rfl) T.gc_HandDeed S.HandDeed_init.b .nil pass0 (pa_cons (pv 0) pa_nil)))))), ?_⟩
  rintro args cs Φ ⟨d, rfl, rfl, h⟩
  show wpS K _ [some (.dat (ddD d))] [] _
  obtain ⟨r, hrd⟩ := dd_wd d
  rw [hrd] at h ⊢
  refine ws_seq (ws_if (wt_test ?_))
  walk_at "g"
  refine ⟨fun hb => ?_, fun hb => ws_next ?_⟩
  · rw [cl_L (of_decide_eq_true hb)] at h
    refine ws_ret (we_make (wa_cons (we_var rfl (wa_nil ⟨[.tuple (.str (wdD d) :: r)], fun y c => y = .dat .none ∧ c = [dgC (He.ga K "LetterDeed") (.tuple (.str (wdD d) :: r))], rfl, ⟨_, rfl, rfl, rfl, rfl⟩, fun y c hy => ⟨hy.1, by
    rw [hy.2]
    exact .inr ⟨CsB.nil, .inr (.inr ⟨0, dgC _ _, rfl, Nat.zero_le _, rfl, cb_dg, h⟩)⟩⟩⟩))))
  refine ws_seq (ws_if (wt_test ?_))
  walk_at "g"
  refine ⟨fun hb2 => ?_, fun hb2 => ws_next ?_⟩
  · rw [cl_R (of_decide_eq_true hb2)] at h
    refine ws_ret (we_make (wa_cons (we_var rfl (wa_nil ⟨[.tuple (.str (wdD d) :: r)], fun y c => y = .dat .none ∧ c = [dgC (He.ga K "ReadDeed") (.tuple (.str (wdD d) :: r))], rfl, ⟨_, rfl, rfl, rfl, rfl⟩, fun y c hy => ⟨hy.1, by
    rw [hy.2]
    exact .inr ⟨CsB.nil, .inr (.inr ⟨0, dgC _ _, rfl, Nat.zero_le _, rfl, cb_dg, h⟩)⟩⟩⟩))))
  rw [cl_H (of_decide_eq_false hb) (of_decide_eq_false hb2)] at h
  refine ws_ret (we_make (wa_cons (we_var rfl (wa_nil ⟨[.tuple (.str (wdD d) :: r)], fun y c => y = .dat .none ∧ c = [dgC (He.ga K "HandDeed") (.tuple (.str (wdD d) :: r))], rfl, ⟨_, rfl, rfl, rfl, rfl⟩, fun y c hy => ⟨hy.1, by
    rw [hy.2]
    exact .inr ⟨CsB.nil, .inr (.inr ⟨0, dgC _ _, rfl, Nat.zero_le _, rfl, cb_dg, h⟩)⟩⟩⟩))))
def Lf.leave (x : Lf) : Dd → Lf
  | .come l => { x with L := ptG x.L l true }
  | .go l => { x with L := ptG x.L l false }
  | .join a b => { x with h := ptG x.h a (true, some b) }
  | .split a => { x with h := ptG x.h a (true, none) }
  | .free a => { x with h := ptG x.h a (false, none) }
  | .read a => { x with r := ptG x.r a true }
  | .unread a => { x with r := ptG x.r a false }
def lgP (p : Dd × Bool) : D := .tuple [ddD p.1, .bool p.2]
def stepL (x : Lf) (p : Dd × Bool) : Lf := if p.2 then x.leave p.1 else x
def leftL (lg : List (Dd × Bool)) : Lf := lg.foldl stepL ⟨[], [], []⟩
theorem leave_len (x : Lf) (d : Dd) : (x.leave d).L.length ≤ x.L.length + 1 ∧ (x.leave d).h.length ≤ x.h.length + 1 ∧ (x.leave d).r.length ≤ x.r.length + 1 := by
  cases d <;> exact ⟨by first | exact ptG_len | exact Nat.le_succ _, by first | exact ptG_len | exact Nat.le_succ _, by first | exact ptG_len | exact Nat.le_succ _⟩
theorem left_len (lg : List (Dd × Bool)) : (leftL lg).L.length ≤ lg.length ∧ (leftL lg).h.length ≤ lg.length ∧ (leftL lg).r.length ≤ lg.length := by
  have key : ∀ (lg : List (Dd × Bool)) (x : Lf), (lg.foldl stepL x).L.length ≤ x.L.length + lg.length ∧ (lg.foldl stepL x).h.length ≤ x.h.length + lg.length ∧ (lg.foldl stepL x).r.length ≤ x.r.length + lg.length := fun lg => by
    induction lg with
    | nil => exact fun x => ⟨Nat.le_refl _, Nat.le_refl _, Nat.le_refl _⟩
    | cons p r ih =>
      intro x
      obtain ⟨h1, h2, h3⟩ := ih (stepL x p)
      have h4 : (stepL x p).L.length ≤ x.L.length + 1 ∧ (stepL x p).h.length ≤ x.h.length + 1 ∧ (stepL x p).r.length ≤ x.r.length + 1 := by
        unfold stepL
        split
        · exact leave_len x p.1
        · exact ⟨Nat.le_succ _, Nat.le_succ _, Nat.le_succ _⟩
      rw [List.foldl_cons, List.length_cons]
      omega
  have h := key lg ⟨[], [], []⟩
  have e0 : (([] : List (Lr × Bool)).length = 0) ∧ (([] : List (Str × Bool × Option Str)).length = 0) ∧ (([] : List (Str × Bool)).length = 0) := ⟨rfl, rfl, rfl⟩
  unfold leftL
  exact ⟨by have := h.1; dsimp only at this; omega, by have := h.2.1; dsimp only at this; omega, by have := h.2.2; dsimp only at this; omega⟩
theorem left_succ {lg : List (Dd × Bool)} {j : Nat} {p : Dd × Bool} (h : lg[j]? = some p) : leftL (lg.take (j + 1)) = stepL (leftL (lg.take j)) p := by
  unfold leftL
  rw [List.take_succ, h, List.foldl_append]
  rfl
theorem cb_lt {w : World} {L : List (Lr × Bool)} {n : Nat} : CellB n (kdC w (ltK L)) := fun p hp => by
  obtain ⟨q, _, rfl⟩ := List.mem_map.mp hp
  trivial
theorem cb_sd {kv : SD} {n : Nat} : CellB n (dctS kv) := fun p hp => by
  obtain ⟨q, _, rfl⟩ := List.mem_map.mp hp
  trivial
theorem cb_lfO {C : Addr} {n m : Nat} (h : m + 3 ≤ n) : CellB n (lfO C m) := fun p hp => by
  rcases List.mem_cons.mp hp with rfl | hp
  · exact Nat.lt_of_lt_of_le (show m < m + 3 by omega) h
  rcases List.mem_cons.mp hp with rfl | hp
  · exact Nat.lt_of_lt_of_le (show m + 1 < m + 3 by omega) h
  · rw [List.mem_singleton.mp hp]
    exact Nat.lt_of_lt_of_le (show m + 2 < m + 3 by omega) h
theorem csb_lf {w : World} {C : Addr} {n m : Nat} {x : Lf} (h : m + 3 ≤ n) : CsB n (lfC w C m x) := CsB.cons (cb_lfO h) (CsB.cons cb_lt (CsB.cons cb_sd (CsB.cons cb_sd CsB.nil)))
theorem lf_put {w : World} {C CL : Addr} {d e : D} {x y : Lf} : putAll (lfC w CL 1 x ++ [dgC C d]) [4, 0, 1, 2, 3] ((dgC C e :: lfC w CL 2 y).map (mpC [4, 0, 1, 2, 3])) = lfC w CL 1 y ++ [dgC C e] := by
  show [mpC [4, 0, 1, 2, 3] (lfO CL 2), mpC [4, 0, 1, 2, 3] (kdC w (ltK y.L)), mpC [4, 0, 1, 2, 3] (dctS (hdS y.h)), mpC [4, 0, 1, 2, 3] (dctS (rdS y.r)), mpC [4, 0, 1, 2, 3] (dgC C e)] = _
  rw [mpC_flat cb_lt, mpC_flat cb_sd, mpC_flat cb_sd]
  rfl
theorem cl_leave {P : Program} {w : World} {K : PySem.W.Frag} {C CL : Addr} {m : Str} {al : AS} {env : G.Env} {Φ : Vl → List Cell → Prop} {x : Lf} {d : Dd} (hC : clD K d = C) (h1 : env[1]? = some (some (.cel 0))) (h2 : env[2]? = some (some (.dat (ddD d)))) (hm : m ∉ [Str.ofString "deed_told"])
    (ha : al [.cel 0, .cel 1] (dgC C (ddD d) :: lfC w CL 2 x) fun y c => y = .dat .none ∧ c = dgC C (ddD d) :: lfC w CL 2 (x.leave d)) (q : Φ (.dat .none) (lfC w CL 1 (x.leave d))) :
    wpE K (tCall (conc K al) [] E0 (tCons (tObj C m (tCall (conc K (as_made P w K)) [] E0 (tCons (tVar 2) tNil))) (tCons (tVar 1) tNil))) env (lfC w CL 1 x) Φ := by
  refine we_gcC (we_call (wa_cons (we_obj (we_call0c (wa_cons (we_var h2 (wa_nil ⟨fun y c => y = .cel 0 ∧ c = [dgC (clD K d) (ddD d)], ⟨d, rfl, rfl, rfl, rfl⟩, fun x hx => (by rw [List.mem_singleton.mp hx]; trivial), fun y c hy => ⟨_, hy.1, hy.2, cb_dg, ?_⟩⟩)))))))
  subst hC
  refine ⟨4, _, rfl, rfl, fld_no (ks := [Str.ofString "deed_told"]) rfl hm, wa_cons (we_var h1 (wa_nil ?_))⟩
  refine ⟨[4, 0, 1, 2, 3], [.cel 0, .cel 1], dgC (clD K d) (ddD d) :: lfC w CL 2 x, _, ⟨by decide, rfl, fun z hz => ?_, CsB.cons cb_dg (csb_lf (by decide)), rfl, fun j k hj => ?_⟩, ha, fun y c hy2 => .inl ⟨.none, hy2.1, by rw [hy2.2]; rfl, ?_⟩⟩
  · rcases List.mem_cons.mp hz with rfl | hz
    · show 0 < 5
      decide
    · rw [List.mem_singleton.mp hz]
      show 1 < 5
      decide
  · match j, hj with
    | 0, hj =>
      cases Option.some.inj hj
      exact ⟨_, rfl, rfl⟩
    | 1, hj =>
      cases Option.some.inj hj
      exact ⟨_, rfl, rfl⟩
    | 2, hj =>
      cases Option.some.inj hj
      exact ⟨_, rfl, by rw [mpC_flat cb_lt]; rfl⟩
    | 3, hj =>
      cases Option.some.inj hj
      exact ⟨_, rfl, by rw [mpC_flat cb_sd]; rfl⟩
    | 4, hj =>
      cases Option.some.inj hj
      exact ⟨_, rfl, by rw [mpC_flat cb_sd]; rfl⟩
    | j + 5, hj => simp at hj
  · rw [hy2.2, lf_put]
    exact ⟨_, rfl, by show 4 ≤ 5; decide, csb_lf (by show 4 ≤ 4; decide), q⟩
abbrev as_left_by (P : Program) (w : World) (K : PySem.W.Frag) : AS := fun args cs Φ => ∃ lg : List (Dd × Bool), args = [.dat (.tuple (lg.map lgP))] ∧ cs = [] ∧ lg.length ≤ 900 ∧ Φ (.cel 0) (lfC w (He.ga K "Left") 1 (leftL lg))
theorem ok_left_by (T : Tx K mg base) (S : Ds K mg) : FnOk P w K mg base CX0 4 S.left_by.f S.left_by.fd ["log"] (conc K (as_left_by P w K)) := by
  refine fn_absE S.left_by.F sc_left_by (by rintro _ _ _ ⟨_, rfl, _⟩; rfl) (fun cdv A outer s H E hr => ?_)
  refine ⟨_, (pss_cons (ps_set (i := 1) sc_left_by.nd rfl (Or.inl rfl) (pe_make0 T.mk_Left (ok_Left_init (P := P) (w := w) T S) (hr.mono (by decide)) (by rfl) T.gc_Left S.Left_init.b .nil pass0))
      (pss_cons (ps_for PassesOwn.never rfl (ki_tup (K := K) rfl (pv 0)) (kg_tup (K := K) rfl (by rfl) (pgs_cons (pg_name (i := 2) sc_left_by.nd rfl (Or.inl rfl)) (pgs_cons (pg_name (i := 3) sc_left_by.nd rfl (Or.inl rfl)) pgs_nil)))
      (pss_one (ps_if (pt_val (pv 3)) (pss_one (ps_expr (pe_or (kp_meth (pe_meth (pe_call (ok_made (P := P) (w := w) T S) (hr.mono (by decide)) (by rfl) S.made.g S.made.F.kp S.made.b .nil pass0 (pa_cons (pv 2) pa_nil)) T.cl_LetterDeed T.me_LetterDeed_leave_in (ok_LetterDeed_leave_in (P := P) (w := w) T S) (hr.mono (by decide)) S.LetterDeed_leave_in.b .nil pass0 (pa_cons (pv 1) pa_nil))) (pe_or (kp_meth (pe_meth (pe_call (ok_made (P := P) (w := w) T S) (hr.mono (by decide)) (by rfl) S.made.g S.made.F.kp S.made.b .nil pass0 (pa_cons (pv 2) pa_nil)) T.cl_HandDeed T.me_HandDeed_leave_in (ok_HandDeed_leave_in (P := P) (w := w) T S) (hr.mono (by decide)) S.HandDeed_leave_in.b .nil pass0 (pa_cons (pv 1) pa_nil))) (kp_meth (pe_meth (pe_call (ok_made (P := P) (w := w) T S) (hr.mono (by decide)) (by rfl) S.made.g S.made.F.kp S.made.b .nil pass0 (pa_cons (pv 2) pa_nil)) T.cl_ReadDeed T.me_ReadDeed_leave_in (ok_ReadDeed_leave_in (P := P) (w := w) T S) (hr.mono (by decide)) S.ReadDeed_leave_in.b .nil pass0 (pa_cons (pv 1) pa_nil)))))))
      pss_nil)))
      (pss_one (ps_ret (pv 1))))), ?_⟩
  rintro args cs Φ ⟨lg, rfl, rfl, hl, h⟩
  show wpS K _ [some (.dat (.tuple (lg.map lgP))), none, none, none] [] _
  refine ws_seq (ws_asg (we_make (wa_nil ⟨[], fun y c => y = .dat .none ∧ c = lfC w (He.ga K "Left") 1 ⟨[], [], []⟩, rfl, ⟨rfl, rfl, rfl, rfl⟩, fun y c hy => ⟨hy.1, ?_⟩⟩)))
  rw [hy.2]
  refine wg_name ?_
  show wpS K _ [some (.dat (.tuple (lg.map lgP))), some (.cel 0), none, none] (lfC w (He.ga K "Left") 1 ⟨[], [], []⟩) _
  refine ws_seq (ws_for (wi_tup (we_var rfl ⟨_, rfl, fun j e c => ∃ (o2 o3 : Option Vl), e = [some (.dat (.tuple (lg.map lgP))), some (.cel 0), o2, o3] ∧ c = lfC w (He.ga K "Left") 1 (leftL (lg.take j)), ⟨_, _, rfl, rfl⟩, fun _ _ _ _ _ => trivial, ?_, ?_⟩)))
  · rintro j d e c hd ⟨o2, o3, rfl, rfl⟩
    obtain ⟨⟨d, b⟩, hp, rfl⟩ := get_map hd
    have hlen := left_len (lg.take j)
    have htl : (lg.take j).length ≤ 900 := Nat.le_trans (List.length_take_le ..) (by
      have := (List.getElem?_eq_some_iff.mp hp).1
      omega)
    have hs := left_succ hp
    generalize leftL (lg.take j) = x at hlen hs ⊢
    refine wg_tup rfl rfl (wgs_mc (wg_name (wgs_mc (wg_name (wgs_mn ?_)))))
    show wpS K _ [some (.dat (.tuple (lg.map lgP))), some (.cel 0), some (.dat (ddD d)), some (.dat (.bool b))] (lfC w (He.ga K "Left") 1 x) _
    refine ws_if ?_
    walk_at "g"
    refine ⟨fun hb => ?_, fun hb => ws_next ?_⟩
    · subst hb
      have hs : leftL (lg.take (j + 1)) = x.leave d := hs
      rw [hs]
      refine ws_drop ?_
      cases d with
      | come l => exact we_orL (cl_leave rfl rfl rfl (by decide +kernel) ⟨.come l, l, true, x, rfl, rfl, .inl ⟨rfl, rfl⟩, by omega, rfl, rfl⟩ ⟨_, _, rfl, rfl⟩)
      | go l => exact we_orL (cl_leave rfl rfl rfl (by decide +kernel) ⟨.go l, l, false, x, rfl, rfl, .inr ⟨rfl, rfl⟩, by omega, rfl, rfl⟩ ⟨_, _, rfl, rfl⟩)
      | join a b => exact we_orR (we_orL (cl_leave rfl rfl rfl (by decide +kernel) ⟨.join a b, a, (true, some b), x, rfl, rfl, .inl ⟨b, rfl, rfl⟩, by omega, rfl, rfl⟩ ⟨_, _, rfl, rfl⟩))
      | split a => exact we_orR (we_orL (cl_leave rfl rfl rfl (by decide +kernel) ⟨.split a, a, (true, none), x, rfl, rfl, .inr (.inl ⟨rfl, rfl⟩), by omega, rfl, rfl⟩ ⟨_, _, rfl, rfl⟩))
      | free a => exact we_orR (we_orL (cl_leave rfl rfl rfl (by decide +kernel) ⟨.free a, a, (false, none), x, rfl, rfl, .inr (.inr ⟨rfl, rfl⟩), by omega, rfl, rfl⟩ ⟨_, _, rfl, rfl⟩))
      | read a => exact we_orR (we_orR (cl_leave rfl rfl rfl (by decide +kernel) ⟨.read a, a, true, x, rfl, rfl, .inl ⟨rfl, rfl⟩, by omega, rfl, rfl⟩ ⟨_, _, rfl, rfl⟩))
      | unread a => exact we_orR (we_orR (cl_leave rfl rfl rfl (by decide +kernel) ⟨.unread a, a, false, x, rfl, rfl, .inr ⟨rfl, rfl⟩, by omega, rfl, rfl⟩ ⟨_, _, rfl, rfl⟩))
    · subst hb
      exact ⟨_, _, rfl, by rw [hs]; rfl⟩
  · rintro e c ⟨o2, o3, rfl, rfl⟩
    rw [List.length_map, List.take_length]
    exact ws_ret (we_var rfl h)
theorem shC_kd {w : World} {L : List (Lr × Bool)} {n : Nat} : shC n (kdC w (ltK L)) = kdC w (ltK L) := by
  show Cell.dcx _ ((ltK L).map _) = _
  unfold ltK
  rw [List.map_map]
  rfl
theorem shC_sd {kv : SD} {n : Nat} : shC n (dctS kv) = dctS kv := by
  show Cell.dct ((kv.map entV).map _) = _
  rw [List.map_map]
  rfl
theorem lf_sh {w : World} {C : Addr} {x : Lf} : ([] : List Cell) ++ (lfC w C 1 x).map (shC ([] : List Cell).length) = lfC w C 1 x := by
  show [shC 0 (lfO C 1), shC 0 (kdC w (ltK x.L)), shC 0 (dctS (hdS x.h)), shC 0 (dctS (rdS x.r))] = _
  rw [shC_kd, shC_sd, shC_sd]
  rfl
def packL (lg : List (Dd × Bool)) : List Lr := ((leftL lg).L.filter fun p => p.2).map (·.1)
def rel_pack_of : List D → D → Prop := fun ds r => ∃ lg : List (Dd × Bool), ds = [.tuple (lg.map lgP)] ∧ lg.length ≤ 900 ∧ r = .tuple ((sortR (packL lg)).map lrD)
abbrev as_pack_of (P : Program) (w : World) (K : PySem.W.Frag) : AS := PureAS rel_pack_of
theorem ok_pack_of (T : Tx K mg base) (S : Ds K mg) : FnOk P w K mg base CX0 5 S.pack_of.f S.pack_of.fd ["log"] (conc K (as_pack_of P w K)) := by
  refine fn_abs S.pack_of.F sc_pack_of (by walk_at "plen") (fun cdv A outer s H E hr => ?_)
  refine ⟨_, (pss_one (ps_ret (pe_callTy (kc_tuple (K := K) rfl) (by rfl) T.m_tuple (by decide +kernel) (pa_cons (pe_callB (kc_sortedA (K := K) rfl hr.units) (by rfl) T.m_sorted (by decide +kernel) (pa_cons (pe_lc (own := [("letter", 1), ("there", 2)]) (g := (gTup K 2 (gCons (gName 1) (gCons (gName 2) gNil)))) (by rfl) sc_pack_of.nd (pi_itemsY (w := w) rfl (pe_frz (kp_fld (K := K) rfl (pe_call (ok_left_by (P := P) (w := w) T S) (hr.mono (by decide)) (by rfl) S.left_by.g S.left_by.F.kp S.left_by.b .nil pass0 (pa_cons (pv 0) pa_nil)) rfl))) (blkOk_by (own := [("letter", 1), ("there", 2)]) (N := ["log", "letter", "there"]) (sc := defScope s_pack_of) (by decide +kernel)) (fun _ _ _ _ _ => (kg_tup (K := K) rfl (by rfl) (pgs_cons (pg_name (i := 1) sc_pack_of.nd rfl (Or.inl rfl)) (pgs_cons (pg_name (i := 2) sc_pack_of.nd rfl (Or.inl rfl)) pgs_nil)))) (fun _ _ _ _ _ => (pts_one (pt_val (pv 2)))) (fun _ _ _ _ _ => (pv 1))) pa_nil)) pa_nil)))), ?_⟩
  rintro args cs Φ ⟨_, _, rfl, rfl, ⟨lg, rfl, hl, rfl⟩, h⟩
  show wpS K _ [some (.dat (.tuple (lg.map lgP))), none, none] [] _
  refine ws_ret (we_cb (wa_cons (we_cb (wa_cons (we_lcG (go_pair (by decide) (by decide)) (fun q : Lr × Bool => .tuple [lrD q.1, .bool q.2]) (fun q => q.2) (fun q => lrD q.1) (wi_itemsY (we_frzK (w := w) (we_fld (we_callK (wa_cons (we_var rfl (wa_nil ⟨[.tuple (lg.map lgP)], fun y c => y = .cel 0 ∧ c = lfC w (He.ga K "Left") 1 (leftL lg), rfl, ⟨lg, rfl, rfl, hl, rfl, rfl⟩, fun y c hy => ?_⟩))))))))))))
  rw [hy.1, hy.2, lf_sh]
  have hlen := left_len lg
  unfold packL at h
  generalize leftL lg = x at hlen h ⊢
  refine ⟨0, _, _, _, rfl, rfl, T.cl_Left, T.na_Left_letters_said, fld_get (ks := [Str.ofString "letters_said", Str.ofString "hands_said", Str.ofString "reads_said"]) (by decide +kernel) rfl (i := 0) rfl, 1, ltK x.L, rfl, rfl, fun od => ⟨1, od, x.L.map fun p => (lrD p.1, .bool p.2), rfl, by rw [List.map_map]; rfl, by rw [List.length_map, List.length_map]; omega, by rw [List.map_map]; rfl, x.L, by rw [List.map_map]; rfl, fun q _ => ?_, ?_⟩⟩
  · unfold Each
    exact wg_tup rfl rfl (wgs_mc (wg_name (wgs_mc (wg_name (wgs_mn ⟨rfl, wt_B (we_var (x := .dat (.bool q.2)) rfl ⟨q.2, rfl, rfl, ⟨[], by rw [List.append_nil]⟩, fun _ => we_var (x := .dat (lrD q.1)) rfl XE.mk0⟩)⟩)))))
  · rw [show (x.L.filter fun q => q.2).map (fun q => lrD q.1) = ((x.L.filter fun q => q.2).map (·.1)).map lrD by rw [List.map_map]; rfl]
    exact wa_nil (wc_sortLr (.cel rfl) (wa_nil (wc_tupL (.cel rfl) (.inr ⟨CsB.nil, .inl ⟨_, rfl, h⟩⟩))))
structure Lf.Nd (x : Lf) : Prop where
  L : (x.L.map (·.1)).Nodup
  h : (x.h.map (·.1)).Nodup
  r : (x.r.map (·.1)).Nodup
theorem leave_nd {x : Lf} (h : x.Nd) (d : Dd) : (x.leave d).Nd := by
  cases d with
  | come l => exact ⟨ptG_keys h.L, h.h, h.r⟩
  | go l => exact ⟨ptG_keys h.L, h.h, h.r⟩
  | join a b => exact ⟨h.L, ptG_keys h.h, h.r⟩
  | split a => exact ⟨h.L, ptG_keys h.h, h.r⟩
  | free a => exact ⟨h.L, ptG_keys h.h, h.r⟩
  | read a => exact ⟨h.L, h.h, ptG_keys h.r⟩
  | unread a => exact ⟨h.L, h.h, ptG_keys h.r⟩
theorem left_nd (lg : List (Dd × Bool)) : (leftL lg).Nd := by
  have key : ∀ (lg : List (Dd × Bool)) (x : Lf), x.Nd → (lg.foldl stepL x).Nd := fun lg => by
    induction lg with
    | nil => exact fun x h => h
    | cons p r ih =>
      intro x h
      refine ih _ ?_
      unfold stepL
      split
      · exact leave_nd h _
      · exact h
  exact key lg _ ⟨List.nodup_nil, List.nodup_nil, List.nodup_nil⟩
def marksL (lg : List (Dd × Bool)) : List Mk := ((leftL lg).h.filter fun p => p.2.1).map fun p => (p.1, p.2.2)
theorem marks_nd (lg : List (Dd × Bool)) : ((marksL lg).map (·.1)).Nodup := by
  unfold marksL
  rw [List.map_map]
  exact List.Nodup.sublist (List.Sublist.map _ List.filter_sublist) (left_nd lg).h
def rel_marks_of : List D → D → Prop := fun ds r => ∃ lg : List (Dd × Bool), ds = [.tuple (lg.map lgP)] ∧ lg.length ≤ 900 ∧ r = .tuple ((sortK (marksL lg)).map mkD)
abbrev as_marks_of (P : Program) (w : World) (K : PySem.W.Frag) : AS := PureAS rel_marks_of
theorem ok_marks_of (T : Tx K mg base) (S : Ds K mg) : FnOk P w K mg base CX0 5 S.marks_of.f S.marks_of.fd ["log"] (conc K (as_marks_of P w K)) := by
  refine fn_abs S.marks_of.F sc_marks_of (by walk_at "plen") (fun cdv A outer s H E hr => ?_)
  refine ⟨_, (pss_one (ps_ret (pe_callTy (kc_tuple (K := K) rfl) (by rfl) T.m_tuple (by decide +kernel) (pa_cons (pe_callB (kc_sortedA (K := K) rfl hr.units) (by rfl) T.m_sorted (by decide +kernel) (pa_cons (pe_lc (own := [("name", 1), ("hand", 2)]) (g := (gTup K 2 (gCons (gName 1) (gCons (gName 2) gNil)))) (by rfl) sc_marks_of.nd (pi_items (pe_frz (kp_fld (K := K) rfl (pe_call (ok_left_by (P := P) (w := w) T S) (hr.mono (by decide)) (by rfl) S.left_by.g S.left_by.F.kp S.left_by.b .nil pass0 (pa_cons (pv 0) pa_nil)) rfl))) (blkOk_by (own := [("name", 1), ("hand", 2)]) (N := ["log", "name", "hand"]) (sc := defScope s_marks_of) (by decide +kernel)) (fun _ _ _ _ _ => (kg_tup (K := K) rfl (by rfl) (pgs_cons (pg_name (i := 1) sc_marks_of.nd rfl (Or.inl rfl)) (pgs_cons (pg_name (i := 2) sc_marks_of.nd rfl (Or.inl rfl)) pgs_nil)))) (fun _ _ _ _ _ => (pts_one (pt_val (pe_ix (kx_ix (K := K) rfl) (pv 2) pe_int (fun _ _ => rfl))))) (fun _ _ _ _ _ => (pe_tup (pa_cons (pv 1) (pa_cons (pe_ix (kx_ix (K := K) rfl) (pv 2) pe_int (fun _ _ => rfl)) pa_nil))))) pa_nil)) pa_nil)))), ?_⟩
  rintro args cs Φ ⟨_, _, rfl, rfl, ⟨lg, rfl, hl, rfl⟩, h⟩
  show wpS K _ [some (.dat (.tuple (lg.map lgP))), none, none] [] _
  refine ws_ret (we_cb (wa_cons (we_cb (wa_cons (we_lcG (go_pair (by decide) (by decide)) (fun q : Str × Bool × Option Str => .tuple [.str q.1, hdV q.2]) (fun q => q.2.1) (fun q => mkD (q.1, q.2.2)) (wi_items (we_frzE (we_fld (we_callK (wa_cons (we_var rfl (wa_nil ⟨[.tuple (lg.map lgP)], fun y c => y = .cel 0 ∧ c = lfC w (He.ga K "Left") 1 (leftL lg), rfl, ⟨lg, rfl, rfl, hl, rfl, rfl⟩, fun y c hy => ?_⟩))))))))))))
  rw [hy.1, hy.2, lf_sh]
  have hlen := left_len lg
  have hnd := marks_nd lg
  unfold marksL at h hnd
  generalize leftL lg = x at hlen h hnd ⊢
  refine ⟨0, _, _, _, rfl, rfl, T.cl_Left, T.na_Left_hands_said, fld_get (ks := [Str.ofString "letters_said", Str.ofString "hands_said", Str.ofString "reads_said"]) (by decide +kernel) rfl (i := 1) rfl, 2, hdS x.h, rfl, Nat.zero_le _, rfl, CsB.nil, ?_⟩
  refine ⟨_, rfl, by rw [List.length_map, show (hdS x.h).length = x.h.length from List.length_map ..]; omega, trivial, x.h, by unfold hdS mpA; rw [List.map_map]; rfl, fun q _ => ?_, ?_⟩
  · unfold Each
    refine wg_tup rfl rfl (wgs_mc (wg_name (wgs_mc (wg_name (wgs_mn ⟨rfl, wt_B (we_op (we_var (x := .dat (hdV q.2)) rfl (we_int (wu_ixT (d := .bool q.2.1) rfl rfl (atI_nat (j := 0) rfl) ⟨q.2.1, rfl, rfl, ⟨[], by rw [List.append_nil]⟩, fun _ => ?_⟩))))⟩)))))
    exact we_tupX (wa_cons (we_var (x := .dat (.str q.1)) rfl (wa_cons (we_op (we_var (x := .dat (hdV q.2)) rfl (we_int (wu_ixT (d := optD q.2.2) rfl rfl (atI_nat (j := 1) rfl) (wa_nil ⟨_, rfl, Nat.le_of_ble_eq_true rfl, XE.mk0⟩))))))))
  · rw [show (x.h.filter fun q => q.2.1).map (fun q => mkD (q.1, q.2.2)) = ((x.h.filter fun q => q.2.1).map fun q => (q.1, q.2.2)).map mkD by rw [List.map_map]; rfl]
    exact wa_nil (wc_sortMk (.cel rfl) hnd (wa_nil (wc_tupL (.cel rfl) (.inr ⟨CsB.nil, .inl ⟨_, rfl, h⟩⟩))))
def readsL (lg : List (Dd × Bool)) : List Str := ((leftL lg).r.filter fun p => p.2).map (·.1)
theorem reads_nd (lg : List (Dd × Bool)) : (readsL lg).Nodup := by
  unfold readsL
  exact List.Nodup.sublist (List.Sublist.map _ List.filter_sublist) (left_nd lg).r
theorem strs_sort {xs : List Str} (nd : xs.Nodup) : sortD (xs.map PyData.str) = (sortS xs).map PyData.str := by
  have hr : ((sortS xs).map PyData.str).Pairwise fun a b => PySem.W.dataLt a b = true := List.pairwise_map.mpr (sortS_rise nd)
  refine rise_eq (sortD_rise (str_alikeAll xs).1 (List.pairwise_map.mpr ((List.nodup_iff_pairwise_ne.mp nd).imp fun {a b} h => ?_))) hr fun d => ?_
  · rw [eqv_str]
    exact decide_eq_false h
  · rw [sortD_mem]
    constructor
    · intro h
      obtain ⟨x, hx, rfl⟩ := List.mem_map.mp h
      exact List.mem_map.mpr ⟨x, sortS_mem.mpr hx, rfl⟩
    · intro h
      obtain ⟨x, hx, rfl⟩ := List.mem_map.mp h
      exact List.mem_map.mpr ⟨x, sortS_mem.mp hx, rfl⟩
def rel_reads_of : List D → D → Prop := fun ds r => ∃ lg : List (Dd × Bool), ds = [.tuple (lg.map lgP)] ∧ lg.length ≤ 900 ∧ r = .tuple ((sortS (readsL lg)).map .str)
abbrev as_reads_of (P : Program) (w : World) (K : PySem.W.Frag) : AS := PureAS rel_reads_of
theorem ok_reads_of (T : Tx K mg base) (S : Ds K mg) : FnOk P w K mg base CX0 5 S.reads_of.f S.reads_of.fd ["log"] (conc K (as_reads_of P w K)) := by
  refine fn_abs S.reads_of.F sc_reads_of (by walk_at "plen") (fun cdv A outer s H E hr => ?_)
  refine ⟨_, (pss_one (ps_ret (pe_callTy (kc_tuple (K := K) rfl) (by rfl) T.m_tuple (by decide +kernel) (pa_cons (pe_callB (kc_sortedA (K := K) rfl hr.units) (by rfl) T.m_sorted (by decide +kernel) (pa_cons (pe_lc (own := [("name", 1), ("read", 2)]) (g := (gTup K 2 (gCons (gName 1) (gCons (gName 2) gNil)))) (by rfl) sc_reads_of.nd (pi_items (pe_frz (kp_fld (K := K) rfl (pe_call (ok_left_by (P := P) (w := w) T S) (hr.mono (by decide)) (by rfl) S.left_by.g S.left_by.F.kp S.left_by.b .nil pass0 (pa_cons (pv 0) pa_nil)) rfl))) (blkOk_by (own := [("name", 1), ("read", 2)]) (N := ["log", "name", "read"]) (sc := defScope s_reads_of) (by decide +kernel)) (fun _ _ _ _ _ => (kg_tup (K := K) rfl (by rfl) (pgs_cons (pg_name (i := 1) sc_reads_of.nd rfl (Or.inl rfl)) (pgs_cons (pg_name (i := 2) sc_reads_of.nd rfl (Or.inl rfl)) pgs_nil)))) (fun _ _ _ _ _ => (pts_one (pt_val (pv 2)))) (fun _ _ _ _ _ => (pv 1))) pa_nil)) pa_nil)))), ?_⟩
  rintro args cs Φ ⟨_, _, rfl, rfl, ⟨lg, rfl, hl, rfl⟩, h⟩
  show wpS K _ [some (.dat (.tuple (lg.map lgP))), none, none] [] _
  refine ws_ret (we_cb (wa_cons (we_cb (wa_cons (we_lcG (go_pair (by decide) (by decide)) (fun q : Str × Bool => .tuple [.str q.1, .bool q.2]) (fun q => q.2) (fun q => .str q.1) (wi_items (we_frzE (we_fld (we_callK (wa_cons (we_var rfl (wa_nil ⟨[.tuple (lg.map lgP)], fun y c => y = .cel 0 ∧ c = lfC w (He.ga K "Left") 1 (leftL lg), rfl, ⟨lg, rfl, rfl, hl, rfl, rfl⟩, fun y c hy => ?_⟩))))))))))))
  rw [hy.1, hy.2, lf_sh]
  have hlen := left_len lg
  have hnd := reads_nd lg
  unfold readsL at h hnd
  generalize leftL lg = x at hlen h hnd ⊢
  refine ⟨0, _, _, _, rfl, rfl, T.cl_Left, T.na_Left_reads_said, fld_get (ks := [Str.ofString "letters_said", Str.ofString "hands_said", Str.ofString "reads_said"]) (by decide +kernel) rfl (i := 2) rfl, 3, rdS x.r, rfl, Nat.zero_le _, rfl, CsB.nil, ?_⟩
  refine ⟨_, rfl, by rw [List.length_map, show (rdS x.r).length = x.r.length from List.length_map ..]; omega, trivial, x.r, by unfold rdS mpA; rw [List.map_map]; rfl, fun q _ => ?_, ?_⟩
  · unfold Each
    exact wg_tup rfl rfl (wgs_mc (wg_name (wgs_mc (wg_name (wgs_mn ⟨rfl, wt_B (we_var (x := .dat (.bool q.2)) rfl ⟨q.2, rfl, rfl, ⟨[], by rw [List.append_nil]⟩, fun _ => we_var (x := .dat (.str q.1)) rfl XE.mk0⟩)⟩)))))
  · rw [show (x.r.filter fun q => q.2).map (fun q => PyData.str q.1) = ((x.r.filter fun q => q.2).map (·.1)).map .str by rw [List.map_map]; rfl]
    refine wa_nil (wc_sortedD0 (.cel rfl) (pd_map fun _ _ => pd_str) (str_alikeAll _).1 (PySem.W.Sortable.others fun _ => ⟨by simp, by simp⟩) ?_)
    rw [strs_sort hnd]
    exact wa_nil (wc_tupL (.cel rfl) (.inr ⟨CsB.nil, .inl ⟨_, rfl, h⟩⟩))
def as__law_start : AS := fun args cs Φ => ∃ (ns : List Int), args = [.dat (.list (ns.map .int))] ∧ cs = [] ∧ ∀ g m, StOk 0 g m 0 → Φ (.cel 0) [stC g m 0]
/-- the deep number behind i great cells -/
def deepB (i : Nat) : Int := ((10 : Int) ^ 60) ^ i
theorem deep_step {i : Nat} {a z : Int} (h0 : 0 ≤ a) (h : a < deepB i) : 0 ≤ a * 10 ^ 60 + z % 10 ^ 60 ∧ a * 10 ^ 60 + z % 10 ^ 60 < deepB (i + 1) := by
  have p : (0 : Int) < 10 ^ 60 := by decide +kernel
  have h1 := Int.emod_nonneg z (show (10 : Int) ^ 60 ≠ 0 by omega)
  have h2 := Int.emod_lt_of_pos z p
  have h3 : (a + 1) * 10 ^ 60 ≤ deepB i * 10 ^ 60 := Int.mul_le_mul_of_nonneg_right (by omega) (by omega)
  have h4 : deepB (i + 1) = deepB i * 10 ^ 60 := Int.pow_succ ..
  have h5 : 0 ≤ a * 10 ^ 60 := Int.mul_nonneg h0 (by omega)
  rw [h4]
  rw [Int.add_mul, Int.one_mul] at h3
  generalize z % (10 : Int) ^ 60 = r at h1 h2 ⊢
  generalize a * (10 : Int) ^ 60 = s at h3 h5 ⊢
  generalize deepB i * (10 : Int) ^ 60 = u at h3 ⊢
  generalize (10 : Int) ^ 60 = t at h2 h3
  omega
theorem deep_mono {i j : Nat} (h : i ≤ j) : deepB i ≤ deepB j := by
  induction h with
  | refl => exact Int.le_refl _
  | step _ ih =>
    rename_i k _
    have h4 : deepB (k + 1) = deepB k * 10 ^ 60 := Int.pow_succ ..
    have p : (1 : Int) ≤ 10 ^ 60 := by decide +kernel
    have q : 0 ≤ deepB k := Int.pow_nonneg (by decide +kernel)
    have h5 : deepB k * 1 ≤ deepB k * 10 ^ 60 := Int.mul_le_mul_of_nonneg_left p q
    rw [Int.mul_one] at h5
    rw [h4]
    exact Int.le_trans ih h5
theorem deep_big {i : Nat} (h : i ≤ 63) : deepB i < bigI := Int.lt_of_le_of_lt (deep_mono h) (by
  have e : ((10 : Nat) ^ 60) ^ 63 < 2 ^ 14000 := by decide +kernel
  have e2 : ((((10 : Nat) ^ 60) ^ 63 : Nat) : Int) < ((2 ^ 14000 : Nat) : Int) := Int.ofNat_lt.mpr e
  have e3 : ((((10 : Nat) ^ 60) ^ 63 : Nat) : Int) = deepB 63 := by
    unfold deepB
    rw [Int.natCast_pow]
    rfl
  rw [e3] at e2
  exact e2)
theorem deep_mul {i : Nat} {a : Int} (h0 : 0 ≤ a) (h : a < deepB i) (hi : i ≤ 63) : CMulW a (10 ^ 60) := by
  have h1 := Int.lt_trans h (deep_big hi)
  refine wide_mul (a := 14000) (b := 300) ?_ (by decide +kernel) (by decide) (by decide) (by decide)
  have e : ((a.natAbs : Nat) : Int) < ((2 ^ 14000 : Nat) : Int) := by
    rw [Int.natAbs_of_nonneg h0]
    exact h1
  exact Int.ofNat_lt.mp e
theorem ok__law_start (T : Tx K mg base) (S : Ds K mg) : FnOk P w K mg base CX0 1 S._law_start.f S._law_start.fd ["_law_script"] (conc K as__law_start) := by
  refine fn_abs S._law_start.F sc__law_start (by walk_at "glen") (fun cdv A outer s H E hr => ?_)
  refine ⟨_, (pss_cons (ps_asg (pe_tup (pa_cons pe_int (pa_cons pe_int pa_nil))) (kg_tup (K := K) rfl (by rfl) (pgs_cons (pg_name (i := 1) sc__law_start.nd rfl (Or.inl rfl)) (pgs_cons (pg_name (i := 2) sc__law_start.nd rfl (Or.inl rfl)) pgs_nil))))
      (pss_cons (ps_for PassesOwn.never rfl (gi_enum (K := K) rfl (by rfl) T.m_enumerate (pa_cons (pe_slice (kx_sl (K := K) rfl) (pv 0) po_none (po_some pe_int)) pa_nil)) (kg_tup (K := K) rfl (by rfl) (pgs_cons (pg_name (i := 3) sc__law_start.nd rfl (Or.inl rfl)) (pgs_cons (pg_name (i := 4) sc__law_start.nd rfl (Or.inl rfl)) pgs_nil)))
      (pss_cons (ps_if (pt_cmpR op_ge (pv 4) (pe_op go_pow pe_int pe_int) (nomark _)) (pss_one (ps_set (i := 1) sc__law_start.nd rfl (Or.inl rfl) (pe_op (ko_add (K := K) rfl) (pe_op (ko_mul (K := K) rfl) (pv 1) (pe_op go_pow pe_int pe_int)) (pe_op op_mod (pv 4) (pe_op go_pow pe_int pe_int)))))
      pss_nil)
      (pss_one (ps_set (i := 2) sc__law_start.nd rfl (Or.inl rfl) (pe_op op_mod (pe_op (ko_add (K := K) rfl) (pe_op (ko_add (K := K) rfl) (pe_op (ko_add (K := K) rfl) (pe_op (ko_mul (K := K) rfl) (pv 2) pe_int) (pe_op op_mod (pv 4) pe_int)) (pe_op (ko_mul (K := K) rfl) pe_int (pv 3))) pe_int) pe_int)))))
      (pss_one (ps_ret (pe_lst (pa_cons (pv 1) (pa_cons (pv 2) (pa_cons pe_int pa_nil)))))))), ?_⟩
  rintro args cs Φ ⟨ns, rfl, rfl, h⟩
  show wpS K _ [some (.dat (.list (ns.map .int))), none, none, none, none] [] _
  refine ws_seqa (ws_asg (we_tupX (wa_cons (we_int (wa_cons (we_int (wa_nil ⟨[.int 0, .int 17], rfl, by decide, ?_⟩)))))))
  refine wg_tup rfl rfl (wgs_mc (wg_name (wgs_mc (wg_name (wgs_mn ?_)))))
  refine ws_seq (ws_for (wi_enum (wa_cons (we_fz (we_sl (we_var rfl (wo_none (wo_some (we_int ⟨_, rfl, wu_slL .dat ?_⟩)))))))))
  have ecut : cutD (ns.map PyData.int) none (some 63) = (ns.take 63).map PyData.int := by
    rw [cutD_map, cutD_pre _ (by decide)]
    rfl
  rw [ecut]
  have hlt : (ns.take 63).length ≤ 63 := by
    rw [List.length_take]
    omega
  refine ⟨0, _, rfl, Nat.le_refl 0, rfl, CsB.nil, wa_nil (.inl ⟨_, .inr rfl, ?_⟩)⟩
  rw [enumD_map]
  refine ⟨fun i e c => ∃ (o3 o4 : Option Vl) (g m : Int), e = [some (.dat (.list (ns.map .int))), some (.dat (.int g)), some (.dat (.int m)), o3, o4] ∧ c = [] ∧ (0 ≤ g ∧ g < deepB i) ∧ 0 ≤ m ∧ m < 2 ^ 62, ⟨_, _, 0, 17, rfl, rfl, ⟨by decide, by decide +kernel⟩, by decide, by decide⟩, fun _ _ _ _ _ => trivial, ?_, ?_⟩
  · rintro i d e c hd ⟨o3, o4, g, m, rfl, rfl, ⟨hg0, hg1⟩, hm0, hm1⟩
    obtain ⟨q, hq, rfl⟩ := get_map hd
    have hi : i < 63 := by
      have := (List.getElem?_eq_some_iff.mp hq).1
      rw [List.length_zipIdx] at this
      omega
    obtain ⟨z, k⟩ := q
    have hk : k = i := by
      rw [List.getElem?_zipIdx] at hq
      obtain ⟨_, _, e⟩ := Option.map_eq_some_iff.mp hq
      cases e
      omega
    subst hk
    refine wg_tup rfl rfl (wgs_mc (wg_name (wgs_mc (wg_name (wgs_mn ?_)))))
    refine ws_cut (fun e c => ∃ g : Int, e = [some (.dat (.list (ns.map .int))), some (.dat (.int g)), some (.dat (.int m)), some (.dat (.int (k : Nat))), some (.dat (.int z))] ∧ c = [] ∧ 0 ≤ g ∧ g < deepB (k + 1)) ?_ ?_
    · have hcm := deep_mul hg0 hg1 (by omega)
      have hst := deep_step (z := z) hg0 hg1
      have hmo := deep_mono (i := k) (j := k + 1) (by omega)
      walk_at "g"
      refine ⟨fun hb => ?_, fun hb => ?_⟩
      · walk_at "g"
        refine wu_mulI rfl rfl hcm ?_
        walk_at "g"
        exact ⟨rfl, hst⟩
      · walk_at "g"
        exact ⟨rfl, hg0, Int.lt_of_lt_of_le hg1 hmo⟩
    rintro e c ⟨g, rfl, rfl, hg0, hg1⟩
    walk_at "g"
    exact ⟨_, _, _, _, rfl, rfl, ⟨hg0, hg1⟩, Int.emod_nonneg _ (by decide), Int.lt_trans (Int.emod_lt_of_pos _ (by decide)) (by decide)⟩
  · rintro e c ⟨o3, o4, g, m, rfl, rfl, ⟨hg0, hg1⟩, hm0, hm1⟩
    rw [List.length_map, List.length_zipIdx] at hg1
    have hb := Int.lt_trans hg1 (deep_big hlt)
    walk_at "g"
    exact .inr ⟨CsB.nil, .inr (.inr ⟨0, _, rfl, Nat.le_refl 0, rfl, cb_st, h _ _ ⟨⟨hg0, hb⟩, ⟨hm0, hm1⟩, by decide, by decide⟩⟩)⟩
abbrev as__law_take : AS := TakeBS
local macro_rules | `(tactic| walk_at "g1") => `(tactic| with_reducible refine cl_drawB ?_)
local macro_rules | `(tactic| walk_at "g1") => `(tactic| ((with_reducible refine we_ixF ?_); (walk_at "g"); (refine ⟨rfl, _, rfl, ?h2, ?_⟩); (case h2 => (first | decide | simp))))
local macro_rules | `(tactic| walk_at "g1") => `(tactic| with_reducible refine cl_drawC ?_)
local macro_rules | `(tactic| walk_at "g1") => `(tactic| with_reducible refine cl_takeB ?_)
local macro_rules | `(tactic| walk_at "g1") => `(tactic| ((with_reducible refine' ct_takeB ?h1 ?h2 ?h3 ?h4 ?h5 fun r g' m' c' hr0 hr1 hp' => ?_); (case h1 => rfl); (case h2 => assumption); (case h3 => omega); (case h4 => (first | omega | decide +kernel)); (case h5 => (first | omega | decide +kernel))))
theorem ok__law_take (T : Tx K mg base) (S : Ds K mg) : FnOk P w K mg base CX0 1 S._law_take.f S._law_take.fd ["_law_state", "_law_many"] (conc K as__law_take) := by
  refine fn_abs S._law_take.F sc__law_take (by walk_at "glen") (fun cdv A outer s H E hr => ?_)
  refine ⟨_, (pss_cons (ps_if (pt_cmpR op_gt (pe_ix (kx_ix (K := K) rfl) (pv 0) pe_int (fun _ _ => rfl)) pe_int (nomark _)) (pss_cons (ps_set (i := 2) sc__law_take.nd rfl (Or.inl rfl) (pe_op op_mod (pe_ix (kx_ix (K := K) rfl) (pv 0) pe_int (fun _ _ => rfl)) (pv 1)))
      (pss_cons (ps_asg (pe_op op_fdivW (pe_ix (kx_ix (K := K) rfl) (pv 0) pe_int (fun _ _ => rfl)) (pv 1)) (pg_sub (pv 0) pe_int set_list))
      (pss_one (ps_ret (pv 2)))))
      pss_nil)
      (pss_cons (ps_asg (pe_op (ko_add (K := K) rfl) (pe_ix (kx_ix (K := K) rfl) (pv 0) pe_int (fun _ _ => rfl)) pe_int) (pg_sub (pv 0) pe_int set_list))
      (pss_cons (ps_set (i := 3) sc__law_take.nd rfl (Or.inl rfl) (pe_op op_mod (pe_op (ko_add (K := K) rfl) (pe_op (ko_add (K := K) rfl) (pe_op (ko_mul (K := K) rfl) (pe_ix (kx_ix (K := K) rfl) (pv 0) pe_int (fun _ _ => rfl)) pe_int) (pe_op (ko_mul (K := K) rfl) (pe_op (ko_mul (K := K) rfl) pe_int (pe_ix (kx_ix (K := K) rfl) (pv 0) pe_int (fun _ _ => rfl))) (pe_ix (kx_ix (K := K) rfl) (pv 0) pe_int (fun _ _ => rfl)))) pe_int) pe_int))
      (pss_cons (ps_set (i := 3) sc__law_take.nd rfl (Or.inl rfl) (pe_op op_mod (pe_op (ko_mul (K := K) rfl) (pv 3) (pe_op (ko_add (K := K) rfl) (pe_op op_mod (pv 3) pe_int) (pe_op (ko_mul (K := K) rfl) pe_int (pe_ix (kx_ix (K := K) rfl) (pv 0) pe_int (fun _ _ => rfl))))) pe_int))
      (pss_one (ps_ret (pe_op op_mod (pe_op (ko_add (K := K) rfl) (pe_op op_fdivW (pv 3) pe_int) (pe_op op_fdivW (pv 3) pe_int)) (pv 1)))))))), ?_⟩
  rintro args cs Φ ⟨n, g, m, c, r, rfl, rfl, ⟨⟨p1, p2⟩, ⟨p3, p4⟩, p5, p6⟩, hn, h0, h1, h⟩
  show wpS K _ [some (.cel 0), some (.dat (.int r)), none, none] [stC g m c] _
  walk_at "g"
  refine ws_seqi ?_
  walk_at "g"
  refine ⟨fun h2 => ?_, fun h2 => ?_⟩
  · have h3 : 0 < g := of_decide_eq_true h2
    walk_at "g"
    refine .inl ⟨_, rfl, rfl, h _ _ _ _ (Int.emod_nonneg _ (by omega)) (Int.emod_lt_of_pos _ h0) ⟨⟨Int.ediv_nonneg (by omega) (by omega), ?_⟩, ⟨p3, p4⟩, p5, by omega⟩⟩
    exact Int.lt_of_le_of_lt (Int.ediv_le_self _ (by omega)) p2
  · walk_at "g"
    exact .inl ⟨_, rfl, rfl, h _ _ _ _ (Int.emod_nonneg _ (by omega)) (Int.emod_lt_of_pos _ h0) ⟨⟨p1, p2⟩, ⟨p3, p4⟩, by omega, by omega⟩⟩
def nmSigns : Str := Str.ofString "abcdefghijklmnopqrstuvwxyz0123456789"
def Nm (z : Str) : Prop := (1 ≤ z.length ∧ z.length ≤ 12) ∧ ∀ c, c ∈ tl z → c ∈ tl nmSigns
theorem nm_dec {z : Str} (h : (decide (1 ≤ z.length) && decide (z.length ≤ 12) && (tl z).all fun c => decide (c ∈ tl nmSigns)) = true) : Nm z := by
  rw [Bool.and_eq_true, Bool.and_eq_true, decide_eq_true_eq, decide_eq_true_eq, List.all_eq_true] at h
  exact ⟨h.1, fun c hc => of_decide_eq_true (h.2 c hc)⟩
theorem nm_small {z : Str} (h : Nm z) : ∀ c, c ∈ tl z → c < 16 ^ 8 := fun c hc => by
  have e : (tl nmSigns).all (fun c => decide (c < 16 ^ 8)) = true := by decide +kernel
  exact of_decide_eq_true (List.all_eq_true.mp e c (h.2 c hc))
def pre__law_name : List D → Prop := fun ds => ds = []
def post__law_name : List D → D → Prop := fun _ d => ∃ z, d = .str z ∧ Nm z
abbrev as__law_name : AS := DrawBS 20 pre__law_name post__law_name
local macro_rules | `(tactic| walk_at "g1") => `(tactic| ((with_reducible refine' ct_drawB (cost := 20) (pre := pre__law_name) ?h0 ?h1 ?h2 ?h3 ?h4 ?h5); (case h0 => rfl); (case h1 => rfl); (case h2 => assumption); (case h3 => omega); (case h4 => exact rfl); (rintro _ g' m' c' ⟨nm, e0, hnm⟩ hp'; (try subst e0))))
theorem ok__law_name (T : Tx K mg base) (S : Ds K mg) : FnOk P w K mg base CX0 2 S._law_name.f S._law_name.fd ["_law_state"] (conc K as__law_name) := by
  refine fn_abs S._law_name.F sc__law_name (by walk_at "blen") (fun cdv A outer s H E hr => ?_)
  refine ⟨_, (pss_cons (ps_set (i := 1) sc__law_name.nd rfl (Or.inl rfl) (pe_lst (pa_cons pe_str (pa_cons pe_str (pa_cons pe_str (pa_cons pe_str (pa_cons pe_str (pa_cons pe_str (pa_cons pe_str (pa_cons pe_str (pa_cons pe_str (pa_cons pe_str (pa_cons pe_str (pa_cons pe_str (pa_cons pe_str (pa_cons pe_str (pa_cons pe_str (pa_cons pe_str pa_nil))))))))))))))))))
      (pss_cons (ps_if (pt_cmpR op_gt (pe_call (ok__law_take T S) (hr.mono (by decide)) (by rfl) S._law_take.g S._law_take.F.kp S._law_take.b .nil pass0 (pa_cons (pv 0) (pa_cons pe_int pa_nil))) pe_int (nomark _)) (pss_one (ps_ret (pe_ix (kx_ix (K := K) rfl) (pv 1) (pe_call (ok__law_take T S) (hr.mono (by decide)) (by rfl) S._law_take.g S._law_take.F.kp S._law_take.b .nil pass0 (pa_cons (pv 0) (pa_cons pe_int pa_nil))) (fun _ _ => rfl))))
      pss_nil)
      (pss_cons (ps_set (i := 2) sc__law_name.nd rfl (Or.inr rfl) pe_str)
      (pss_one (ps_ret (kp_join (K := K) rfl pe_str (pe_lc (own := [("_law_k", 3)]) (g := (gName 3)) (by rfl) sc__law_name.nd (pi_range1 (by rfl) T.m_range (pa_cons (pe_op (ko_add (K := K) rfl) pe_int (pe_call (ok__law_take T S) (hr.mono (by decide)) (by rfl) S._law_take.g S._law_take.F.kp S._law_take.b .nil pass0 (pa_cons (pv 0) (pa_cons pe_int pa_nil)))) pa_nil)) (blkOk_by (own := [("_law_k", 3)]) (N := ["_law_state", "_law_some", "_law_signs", "_law_k"]) (sc := defScope s__law_name) (by decide +kernel)) (fun _ _ _ _ _ => (pg_name (i := 3) sc__law_name.nd rfl (Or.inl rfl))) (fun _ _ _ _ _ => pts_nil) (fun _ _ _ _ _ => (pe_ix (kx_ix (K := K) rfl) (pv 2) (pe_call (ok__law_take T S) (hr.mono (by decide)) (by rfl) S._law_take.g S._law_take.F.kp S._law_take.b .nil pass0 (pa_cons (pv 0) (pa_cons pe_int pa_nil))) (fun _ _ => rfl)))))))))), ?_⟩
  rintro args cs Φ ⟨n, g, m, c, _, rfl, rfl, hs, hn, rfl, h⟩
  show wpS K _ [some (.cel 0), none, none, none] [stC g m c] _
  have hl0 : (Str.ofString "").length = 0 := by decide +kernel
  have hl36 : (Str.ofString "abcdefghijklmnopqrstuvwxyz0123456789").length = 36 := by decide +kernel
  refine ws_seqa (ws_asg (we_lstF ?_))
  walk_at "g"
  refine ⟨rfl, _, rfl, by simp, ?_⟩
  walk_at "gg"
  · rename_i z hz
    have hz : ∃ y, PyData.str z = PyData.str y ∧ Nm y := by
      rcases hz with rfl | rfl | rfl | rfl | rfl | rfl | rfl | rfl | rfl | rfl | rfl | rfl | rfl | rfl | rfl | rfl <;> exact ⟨_, rfl, nm_dec (by decide +kernel)⟩
    exact .inl ⟨_, rfl, rfl, h _ _ _ _ hz (by walk_at "stok")⟩
  · rename_i sz _ _ _ hsz0 hsz1 _
    refine we_lcJ (go_name (by decide)) (fun d => ∃ c, d = .str (sgn c) ∧ c ∈ tl nmSigns) (fun i cc => ∃ g m c, cc = [stC g m c] ∧ StOk (n + 2 + i) g m c) (wi_range1 ?_)
    walk_at "g"
    refine ⟨by omega, by omega, by rw [rngD_len]; omega, ⟨_, _, _, rfl, by walk_at "stok"⟩, ?_, ?_, ?_⟩
    · rintro i c' ⟨g, m, c, rfl, _⟩
      exact ⟨trivial, rfl⟩
    · rintro i d c' hd ⟨g, m, c, rfl, hp⟩
      obtain ⟨hi, rfl⟩ := rngD_get hd
      refine wg_name (wt_yes ⟨rfl, ?_⟩)
      walk_at "g"
      rename_i c1 hc1 _ _
      exact .inl ⟨_, rfl, rfl, ⟨_, rfl, hc1⟩, _, _, _, rfl, by walk_at "stok"⟩
    · rintro es c' hl hP ⟨g, m, c, rfl, hp⟩
      obtain ⟨zs, rfl, hzs⟩ := list_of (p := fun c => c ∈ tl nmSigns) hP
      rw [rngD_len] at hl hp
      rw [List.length_map] at hl
      have e : (zs.map fun c => PyData.str (sgn c)) = (zs.map sgn).map .str := by
        rw [List.map_map]
        rfl
      rw [e]
      refine wm_join (ys := zs.map sgn) rfl (.inl (.cel rfl)) ?_ (.inr ⟨csb_st, .inl ⟨_, rfl, h _ _ _ _ ⟨_, rfl, ?_⟩ (by walk_at "stok")⟩⟩)
      · rw [sum_sgn, hl0]
        omega
      · refine ⟨⟨by rw [join_len]; omega, by rw [join_len]; omega⟩, fun c hc => ?_⟩
        rw [tl_join0 (by decide +kernel)] at hc
        exact hzs c hc
def NmsOk (xs : List Str) : Prop := ∀ x, x ∈ xs → Nm x
def pre__law_pool : List D → Prop := fun ds => ∃ n : Int, ds = [.int n] ∧ 0 ≤ n ∧ n ≤ 40
def post__law_pool : List D → List D → Prop := fun ds es => ∃ xs : List Str, es = xs.map .str ∧ xs.length ≤ 40 ∧ NmsOk xs ∧ xs.Nodup ∧ ∀ n : Int, ds = [.int n] → xs.length ≤ n.toNat ∧ (1 ≤ n → 1 ≤ xs.length)
abbrev as__law_pool : AS := DrawCS 900 pre__law_pool post__law_pool
local macro_rules | `(tactic| walk_at "g1") => `(tactic| ((with_reducible refine' ct_drawC (cost := 900) (pre := pre__law_pool) ?h0 ?h1 ?h2 ?h3 ?h4 ?h5); (case h0 => rfl); (case h1 => rfl); (case h2 => assumption); (case h3 => omega); (case h4 => exact ⟨_, rfl, by omega, by omega⟩); (rintro _ g' m' c' ⟨xs, e0, hxl, hxs, hxn, hx1⟩ hp'; (try subst e0))))
theorem ok__law_pool (T : Tx K mg base) (S : Ds K mg) : FnOk P w K mg base CX0 3 S._law_pool.f S._law_pool.fd ["_law_state", "_law_many"] (conc K as__law_pool) := by
  refine fn_abs S._law_pool.F sc__law_pool (by walk_at "blen") (fun cdv A outer s H E hr => ?_)
  refine ⟨_, (pss_cons (ps_set (i := 2) sc__law_pool.nd rfl (Or.inl rfl) (pe_lst pa_nil))
      (pss_cons (ps_for PassesOwn.never rfl (pi_range1 (by rfl) T.m_range (pa_cons (pv 1) pa_nil)) (pg_name (i := 3) sc__law_pool.nd rfl (Or.inl rfl))
      (pss_cons (ps_set (i := 4) sc__law_pool.nd rfl (Or.inl rfl) (pe_call (ok__law_name T S) (hr.mono (by decide)) (by rfl) S._law_name.g S._law_name.F.kp S._law_name.b .nil pass0 (pa_cons (pv 0) pa_nil)))
      (pss_one (ps_if (pt_cmpR (ko_nin (K := K) rfl hr.units) (pv 4) (pv 2) rfl) (pss_one (ps_expr (kp_append (K := K) rfl (pv 2) (pa_cons (pv 4) pa_nil))))
      pss_nil))))
      (pss_one (ps_ret (pv 2))))), ?_⟩
  rintro args cs Φ ⟨n, g, m, c, _, rfl, rfl, hs, hn, ⟨r, rfl, hr0, hr1⟩, h⟩
  show wpS K _ [some (.cel 0), some (.dat (.int r)), none, none, none] [stC g m c] _
  walk_at "g"
  refine ws_seq (ws_for (wi_range1 ?_))
  walk_at "g"
  refine ⟨by omega, by omega, fun i e c => ∃ (o1 o2 : Option Vl) (g m k : Int) (xs : List Str), e = [some (.cel 0), some (.dat (.int r)), some (.cel 1), o1, o2] ∧ c = [stC g m k, .lst ((xs.map PyData.str).map .dat)] ∧ StOk (n + 20 * i) g m k ∧ (xs.length ≤ i ∧ (1 ≤ i → 1 ≤ xs.length)) ∧ NmsOk xs ∧ xs.Nodup, ⟨_, _, _, _, _, [], rfl, rfl, by walk_at "stok", ⟨Nat.le_refl 0, fun h => by omega⟩, (fun _ h => (by cases h)), List.nodup_nil⟩, fun _ _ _ _ _ => trivial, ?_, ?_⟩
  · rintro i d e c hd ⟨o1, o2, g, m, k, xs, rfl, rfl, hp, ⟨hl, hl1⟩, hk, hnd⟩
    obtain ⟨hi, rfl⟩ := rngD_get hd
    refine wg_name ?_
    walk_at "g"
    rename_i nm hnm _
    refine ⟨fun hb => ?_, fun hb => ?_⟩
    · have hno : nm ∉ xs := by simpa using hb
      refine ws_drop (wv_append (fd := PyData.str) (we_var rfl ⟨_, rfl, ⟨_, rfl⟩, we_var rfl ⟨xs, _, rfl, rfl, by omega, ?_⟩⟩))
      exact ⟨_, _, _, _, _, xs ++ [nm], rfl, rfl, by walk_at "stok", ⟨by rw [List.length_append]; show xs.length + 1 ≤ _; omega, fun _ => by rw [List.length_append]; show 1 ≤ xs.length + 1; omega⟩, (fun x hx => (List.mem_append.mp hx).elim (hk x) fun e => by rw [List.mem_singleton.mp e]; exact hnm), List.nodup_append.mpr ⟨hnd, by simp, fun a ha b hb2 e => hno (by rw [← List.mem_singleton.mp hb2, ← e]; exact ha)⟩⟩
    · have hm : nm ∈ xs := by simpa using hb
      exact ws_next ⟨_, _, _, _, _, xs, rfl, rfl, by walk_at "stok", ⟨by omega, fun _ => List.length_pos_of_mem hm⟩, hk, hnd⟩
  · rintro e c ⟨o1, o2, g, m, k, xs, rfl, rfl, hp, ⟨hl, hl1⟩, hk, hnd⟩
    rw [rngD_len] at hl hp hl1
    walk_at "g"
    exact .inr ⟨csb_st, .inr (.inr ⟨1, _, rfl, Nat.le_refl 1, rfl, cb_dats, h _ _ _ _ ⟨xs, rfl, by omega, hk, hnd, fun n e => by cases e; exact ⟨hl, fun h1 => hl1 (by omega)⟩⟩ (by walk_at "stok")⟩)⟩
def pre__law_of : List D → Prop := fun ds => ∃ xs : List D, ds = [.list xs] ∧ 1 ≤ xs.length ∧ xs.length ≤ 1000
def post__law_of : List D → D → Prop := fun ds d => ∀ xs, ds = [.list xs] → d ∈ xs
abbrev as__law_of : AS := DrawBS 1 pre__law_of post__law_of
local macro_rules | `(tactic| walk_at "g1") => `(tactic| ((with_reducible refine' ct_drawB (cost := 1) (pre := pre__law_of) ?h0 ?h1 ?h2 ?h3 ?h4 ?h5); (case h0 => rfl); (case h1 => rfl); (case h2 => assumption); (case h3 => omega); (case h4 => exact ⟨_, rfl, by first | assumption | omega | simp, by first | assumption | omega | simp⟩); (rintro _ g' m' c' hof hp'; (try subst e0))))
theorem ok__law_of (T : Tx K mg base) (S : Ds K mg) : FnOk P w K mg base CX0 2 S._law_of.f S._law_of.fd ["_law_state", "_law_some"] (conc K as__law_of) := by
  refine fn_abs S._law_of.F sc__law_of (by walk_at "blen") (fun cdv A outer s H E hr => ?_)
  refine ⟨_, (pss_one (ps_ret (pe_ix (kx_ix (K := K) rfl) (pv 1) (pe_call (ok__law_take T S) (hr.mono (by decide)) (by rfl) S._law_take.g S._law_take.F.kp S._law_take.b .nil pass0 (pa_cons (pv 0) (pa_cons (pe_callB (kc_len (K := K) rfl) (by rfl) T.m_len PySem.boot_len (pa_cons (pv 1) pa_nil)) pa_nil))) (fun _ _ => rfl)))), ?_⟩
  rintro args cs Φ ⟨n, g, m, c, _, rfl, rfl, hs, hn, ⟨xs, rfl, h1, h2⟩, h⟩
  show wpS K _ [some (.cel 0), some (.dat (.list xs))] [stC g m c] _
  walk_at "g"
  rename_i d hd _
  exact .inl ⟨_, rfl, rfl, h _ _ _ _ (fun ys e => by cases e; exact hd) (by walk_at "stok")⟩
def fillS : List Str := [Str.ofString "p0", Str.ofString "q1", Str.ofString "x", Str.ofString "7", Str.ofString "yy", Str.ofString "u2u", Str.ofString "left", Str.ofString "w", Str.ofString "v9", Str.ofString "g"]
theorem fill_ok : fillS.Nodup ∧ NmsOk fillS := by
  refine ⟨by decide +kernel, fun x hx => nm_dec ?_⟩
  have e : fillS.all (fun z => decide (1 ≤ z.length) && decide (z.length ≤ 12) && (tl z).all fun c => decide (c ∈ tl nmSigns)) = true := by decide +kernel
  exact List.all_eq_true.mp e x hx
def pre__law_names : List D → Prop := fun ds => ∃ n : Int, ds = [.int n] ∧ 1 ≤ n ∧ n ≤ 10
def post__law_names : List D → D → Prop := fun ds d => ∃ xs : List Str, d = .list (xs.map .str) ∧ NmsOk xs ∧ xs.Nodup ∧ ds = [.int (xs.length : Nat)]
abbrev as__law_names : AS := DrawBS 901 pre__law_names post__law_names
local macro_rules | `(tactic| walk_at "g1") => `(tactic| ((with_reducible refine' ct_drawB (cost := 901) (pre := pre__law_names) ?h0 ?h1 ?h2 ?h3 ?h4 ?h5); (case h0 => rfl); (case h1 => rfl); (case h2 => assumption); (case h3 => omega); (case h4 => exact ⟨_, rfl, by omega, by omega⟩); (rintro _ g' m' c' ⟨xs, e0, hxs, hxn, hxl⟩ hp'; (try subst e0))))
theorem ok__law_names (T : Tx K mg base) (S : Ds K mg) : FnOk P w K mg base CX0 4 S._law_names.f S._law_names.fd ["_law_state", "_law_many"] (conc K as__law_names) := by
  refine fn_abs S._law_names.F sc__law_names (by walk_at "blen") (fun cdv A outer s H E hr => ?_)
  refine ⟨_, (pss_cons (ps_set (i := 2) sc__law_names.nd rfl (Or.inl rfl) (pe_call (ok__law_pool T S) (hr.mono (by decide)) (by rfl) S._law_pool.g S._law_pool.F.kp S._law_pool.b .nil pass0 (pa_cons (pv 0) (pa_cons (pv 1) pa_nil))))
      (pss_cons (ps_for PassesOwn.never rfl (ki_list (K := K) rfl (pe_lst (pa_cons pe_str (pa_cons pe_str (pa_cons pe_str (pa_cons pe_str (pa_cons pe_str (pa_cons pe_str (pa_cons pe_str (pa_cons pe_str (pa_cons pe_str (pa_cons pe_str pa_nil)))))))))))) (pg_name (i := 3) sc__law_names.nd rfl (Or.inl rfl))
      (pss_one (ps_if (PW.pt (pw_and (pt_cmpR (ko_lt (K := K) rfl hr.units) (pe_callB (kc_len (K := K) rfl) (by rfl) T.m_len PySem.boot_len (pa_cons (pv 2) pa_nil)) (pv 1) (nomark _)) (pw_and1 (pt_cmpR (ko_nin (K := K) rfl hr.units) (pv 3) (pv 2) rfl)))) (pss_one (ps_expr (kp_append (K := K) rfl (pv 2) (pa_cons (pv 3) pa_nil))))
      pss_nil)))
      (pss_one (ps_ret (pv 2))))), ?_⟩
  rintro args cs Φ ⟨n, g, m, c, _, rfl, rfl, hs, hn, ⟨r, rfl, hr0, hr1⟩, h⟩
  show wpS K _ [some (.cel 0), some (.dat (.int r)), none, none] [stC g m c] _
  refine ws_stop ?_
  walk_at "g"
  rename_i g1 m1 c1 xs hl hk hnd hx1 hp
  replace hx1 := (hx1 r rfl).1
  refine hold (ws_seq (ws_for (wi_list ?_)))
  refine we_lstF ?_
  walk_at "g"
  refine ⟨rfl, fillS.map .str, rfl, by simp [fillS], .inl ⟨_, rfl, fun i e c => ∃ (ys : List Str) (o3 : Option Vl), e = [some (.cel 0), some (.dat (.int r)), some (.cel 1), o3] ∧ c = [stC g1 m1 c1, .lst ((ys.map PyData.str).map .dat)] ∧ NmsOk ys ∧ ys.Nodup ∧ ys.length ≤ r.toNat ∧ (ys.length = r.toNat ∨ ∀ z, z ∈ fillS.take i → z ∈ ys), ⟨xs, none, rfl, rfl, hk, hnd, hx1, .inr (by simp)⟩, fun _ _ _ _ _ => trivial, ?_, ?_⟩⟩
  · rintro i d e c hd ⟨ys, o3, rfl, rfl, hk, hnd, hl, hf⟩
    obtain ⟨z, hz, rfl⟩ := get_map hd
    have hzm := List.mem_of_getElem? hz
    have htk : fillS.take (i + 1) = fillS.take i ++ [z] := by rw [List.take_add_one, hz]; rfl
    have hyl : (ys.map PyData.str).length = ys.length := List.length_map ..
    refine wg_name (ws_if (wt_andG (a := decide (((ys.map PyData.str).length : Nat) < r)) (b := !decide (z ∈ ys)) ?_ (fun _ => ?_) ⟨fun hb => ?_, fun hb => ws_next ?_⟩))
    · walk_at "g"
      exact XB.mk0
    · walk_at "g"
      exact XB.mk
    · rw [Bool.and_eq_true, decide_eq_true_eq, Bool.not_eq_true', decide_eq_false_iff_not] at hb
      refine ws_drop (wv_append (fd := PyData.str) (we_var rfl ⟨1, rfl, ⟨_, rfl⟩, we_var rfl ⟨ys, z, rfl, rfl, by omega, ?_⟩⟩))
      refine ⟨ys ++ [z], _, rfl, rfl, fun x hx => (List.mem_append.mp hx).elim (hk x) fun e => by rw [List.mem_singleton.mp e]; exact fill_ok.2 z hzm, List.nodup_append.mpr ⟨hnd, by simp, fun a ha b hb2 e => hb.2 (by rw [← List.mem_singleton.mp hb2, ← e]; exact ha)⟩, by rw [List.length_append, List.length_singleton]; omega, ?_⟩
      rcases hf with hf | hf
      · exfalso
        omega
      · refine .inr fun x hx => ?_
        rw [htk] at hx
        exact (List.mem_append.mp hx).elim (fun q => List.mem_append_left _ (hf x q)) fun q => List.mem_append_right _ q
    · refine ⟨ys, _, rfl, rfl, hk, hnd, hl, ?_⟩
      rcases hf with hf | hf
      · exact .inl hf
      · rw [Bool.and_eq_false_iff, decide_eq_false_iff_not, Bool.not_eq_false', decide_eq_true_eq] at hb
        rcases hb with hb | hb
        · exact .inl (by omega)
        · refine .inr fun x hx => ?_
          rw [htk] at hx
          exact (List.mem_append.mp hx).elim (hf x) fun q => by rw [List.mem_singleton.mp q]; exact hb
  · rintro e c ⟨ys, o3, rfl, rfl, hk, hnd, hl, hf⟩
    walk_at "g"
    have hfin : ys.length = r.toNat := by
      rcases hf with hf | hf
      · exact hf
      · rw [List.length_map, List.take_length] at hf
        have := len_le_of fill_ok.1 hf
        have e10 : fillS.length = 10 := rfl
        omega
    exact .inr ⟨csb_st, .inr (.inl ⟨1, _, rfl, Nat.le_refl 1, rfl, h _ _ _ _ ⟨ys, rfl, hk, hnd, by rw [hfin]; congr 2; omega⟩ (by walk_at "stok")⟩)⟩
def LrOk (xs : List Str) (l : Lr) : Prop := l.1 ∈ xs ∧ (0 ≤ l.2.1 ∧ l.2.1 ≤ 99999999) ∧ (isHead (.str l.2.2.1) = true ∧ l.2.2.1.length ≤ 20) ∧ l.2.2.2.length ≤ 9 ∧ (∀ x, x ∈ l.2.2.2 → x ∈ xs) ∧ Sh 10 (.int l.2.1)
def pre__law_letters : List D → Prop := fun ds => ∃ (xs : List Str) (k : Int), ds = [.list (xs.map .str), .int k] ∧ 1 ≤ xs.length ∧ xs.length ≤ 40 ∧ 0 ≤ k ∧ k ≤ 20
def post__law_letters : List D → D → Prop := fun ds d => ∃ ls : List Lr, d = .list (ls.map lrD) ∧ ∀ (xs : List Str) (k : Int), ds = [.list (xs.map .str), .int k] → ls.length = k.toNat ∧ ∀ l, l ∈ ls → LrOk xs l
abbrev as__law_letters : AS := DrawBS 400 pre__law_letters post__law_letters
local macro_rules | `(tactic| walk_at "g1") => `(tactic| ((with_reducible refine' ct_drawB (cost := 400) (pre := pre__law_letters) ?h0 ?h1 ?h2 ?h3 ?h4 ?h5); (case h0 => rfl); (case h1 => rfl); (case h2 => assumption); (case h3 => omega); (case h4 => exact ⟨_, _, rfl, by omega, by omega, by omega, by omega⟩); (rintro _ g' m' c' ⟨ls, e0, hls⟩ hp'; (try subst e0))))
theorem ok__law_letters (T : Tx K mg base) (S : Ds K mg) : FnOk P w K mg base CX0 3 S._law_letters.f S._law_letters.fd ["_law_state", "_law_pool_here", "_law_many"] (conc K as__law_letters) := by
  refine fn_abs S._law_letters.F sc__law_letters (by walk_at "blen") (fun cdv A outer s H E hr => ?_)
  refine ⟨_, (pss_cons (ps_set (i := 3) sc__law_letters.nd rfl (Or.inl rfl) (pe_lst pa_nil))
      (pss_cons (ps_for PassesOwn.never rfl (pi_range1 (by rfl) T.m_range (pa_cons (pv 2) pa_nil)) (pg_name (i := 4) sc__law_letters.nd rfl (Or.inl rfl))
      (pss_cons (ps_set (i := 5) sc__law_letters.nd rfl (Or.inl rfl) (pe_ix (kx_ix (K := K) rfl) (pe_lst (pa_cons pe_int (pa_cons pe_int (pa_cons pe_int (pa_cons pe_int (pa_cons pe_int pa_nil)))))) (pe_call (ok__law_take T S) (hr.mono (by decide)) (by rfl) S._law_take.g S._law_take.F.kp S._law_take.b .nil pass0 (pa_cons (pv 0) (pa_cons pe_int pa_nil))) (fun _ _ => rfl)))
      (pss_cons (ps_set (i := 6) sc__law_letters.nd rfl (Or.inl rfl) (pe_ix (kx_ix (K := K) rfl) (pe_lst (pa_cons pe_str (pa_cons pe_str (pa_cons pe_str (pa_cons pe_str (pa_cons pe_str (pa_cons pe_str pa_nil))))))) (pe_call (ok__law_take T S) (hr.mono (by decide)) (by rfl) S._law_take.g S._law_take.F.kp S._law_take.b .nil pass0 (pa_cons (pv 0) (pa_cons pe_int pa_nil))) (fun _ _ => rfl)))
      (pss_cons (ps_set (i := 7) sc__law_letters.nd rfl (Or.inl rfl) (pe_callTy (kc_tuple (K := K) rfl) (by rfl) T.m_tuple (by decide +kernel) (pa_cons (pe_lc (own := [("_law_at", 8)]) (g := (gName 8)) (by rfl) sc__law_letters.nd (pi_range1 (by rfl) T.m_range (pa_cons (pe_call (ok__law_take T S) (hr.mono (by decide)) (by rfl) S._law_take.g S._law_take.F.kp S._law_take.b .nil pass0 (pa_cons (pv 0) (pa_cons pe_int pa_nil))) pa_nil)) (blkOk_by (own := [("_law_at", 8)]) (N := ["_law_state", "_law_pool_here", "_law_many", "_law_found", "_law_k", "_law_day", "_law_head", "_law_row", "_law_at"]) (sc := defScope s__law_letters) (by decide +kernel)) (fun _ _ _ _ _ => (pg_name (i := 8) sc__law_letters.nd rfl (Or.inl rfl))) (fun _ _ _ _ _ => pts_nil) (fun _ _ _ _ _ => (pe_call (ok__law_of T S) (hr.mono (by decide)) (by rfl) S._law_of.g S._law_of.F.kp S._law_of.b .nil pass0 (pa_cons (pv 0) (pa_cons (pv 1) pa_nil))))) pa_nil)))
      (pss_one (ps_expr (kp_append (K := K) rfl (pv 3) (pa_cons (pe_tup (pa_cons (pe_call (ok__law_of T S) (hr.mono (by decide)) (by rfl) S._law_of.g S._law_of.F.kp S._law_of.b .nil pass0 (pa_cons (pv 0) (pa_cons (pv 1) pa_nil))) (pa_cons (pv 5) (pa_cons (pv 6) (pa_cons (pv 7) pa_nil))))) pa_nil))))))))
      (pss_one (ps_ret (pv 3))))), ?_⟩
  rintro args cs Φ ⟨n, g, m, c, _, rfl, rfl, hp, hn, ⟨xs, most, rfl, hx1, hx2, hk1, hk2⟩, h⟩
  show wpS K _ [some (.cel 0), some (.dat (.list (xs.map .str))), some (.dat (.int most)), none, none, none, none, none, none] [stC g m c] _
  have hml : (xs.map PyData.str).length = xs.length := List.length_map ..
  refine ws_seqa (ws_asg (we_lst (wa_nil ⟨by simp, wg_name ?_⟩)))
  walk_at "g"
  refine ws_seq (ws_for (wi_range1 ?_))
  walk_at "g"
  refine ⟨by omega, by omega, fun i e c => ∃ (o4 o5 o6 o7 o8 : Option Vl) (ls : List Lr) (g m k : Int), e = [some (.cel 0), some (.dat (.list (xs.map .str))), some (.dat (.int most)), some (.cel 1), o4, o5, o6, o7, o8] ∧ c = [stC g m k, .lst ((ls.map lrD).map .dat)] ∧ StOk (n + 20 * i) g m k ∧ ls.length = i ∧ ∀ l, l ∈ ls → LrOk xs l, ⟨_, _, _, _, _, [], _, _, _, rfl, rfl, by walk_at "stok", rfl, fun _ h => nomatch h⟩, fun _ _ _ _ _ => trivial, ?_, ?_⟩
  · rintro i d e c hd ⟨o4, o5, o6, o7, o8, ls, g, m, k, rfl, rfl, hp3, hl, hls⟩
    obtain ⟨hi, rfl⟩ := rngD_get hd
    refine wg_name ?_
    refine ws_gcn (ws_stop ?_)
    walk_at "g"
    rename_i _ _ _ _ _ _ _ dy hdy
    have hdy2 : 0 ≤ dy ∧ dy ≤ 99999999 := by omega
    have hdy3 : Sh 10 (.int dy) := by
      rcases hdy with rfl | rfl | rfl | rfl | rfl <;> exact ⟨pd_int, by decide +kernel, by decide +kernel⟩
    refine hold (ws_stop ?_)
    walk_at "g"
    rename_i _ _ _ _ _ _ _ hd0 hhd
    have hhd2 : isHead (.str hd0) = true ∧ hd0.length ≤ 20 := by
      rcases hhd with rfl | rfl | rfl | rfl | rfl | rfl <;> exact ⟨by decide +kernel, by decide +kernel⟩
    refine hold (ws_stop (ws_asg (we_cb (wa_cons ?_))))
    refine we_lcJ (go_name (by decide)) (fun d => ∃ x, d = .str x ∧ x ∈ xs) (fun j cc => ∃ g m k, cc = [stC g m k, .lst ((ls.map lrD).map .dat)] ∧ StOk (n + 20 * i + 8 + j) g m k) (wi_range1 ?_)
    walk_at "g"
    refine ⟨by omega, by omega, by rw [rngD_len]; omega, ⟨_, _, _, rfl, by walk_at "stok"⟩, ?_, ?_, ?_⟩
    · rintro j c' ⟨g, m, c, rfl, _⟩
      exact ⟨trivial, rfl⟩
    · rintro j d c' hd ⟨g, m, c, rfl, hp⟩
      obtain ⟨hj, rfl⟩ := rngD_get hd
      refine wg_name (wt_yes ⟨rfl, ?_⟩)
      walk_at "g"
      rename_i d2 _ _ _ hof _
      obtain ⟨x, hx, rfl⟩ := List.mem_map.mp (hof _ rfl)
      exact .inl ⟨_, rfl, rfl, ⟨_, rfl, hx⟩, _, _, _, rfl, by walk_at "stok"⟩
    rintro es c' hel hP ⟨g, m, c, rfl, hp5⟩
    obtain ⟨row, rfl, hrow⟩ := list_of (f := PyData.str) (p := fun x => x ∈ xs) hP
    rw [rngD_len] at hel hp5
    rw [List.length_map] at hel
    have hrl : row.length ≤ 9 := by omega
    walk_at "g"
    refine hold (ws_drop (wv_append (fd := lrD) (we_var rfl ⟨_, rfl, ⟨_, rfl⟩, ?_⟩)))
    walk_at "g"
    rename_i d1 _ _ _ hof1 _
    obtain ⟨nm, hnm, rfl⟩ := List.mem_map.mp (hof1 _ rfl)
    refine ⟨ls, (nm, dy, hd0, row), rfl, rfl, by omega, ?_⟩
    have hlo : LrOk xs (nm, dy, hd0, row) := ⟨hnm, hdy2, hhd2, hrl, hrow, hdy3⟩
    exact DT.gc [8,7,6,5,4] (by walk_at "ge") (CsB.cons cb_st (CsB.cons cb_dats CsB.nil)) ⟨_, _, _, _, _, ls ++ [(nm, dy, hd0, row)], _, _, _, rfl, rfl, by walk_at "stok", by rw [List.length_append, hl]; rfl, fun l hl => (List.mem_append.mp hl).elim (hls l) fun e => by rw [List.mem_singleton.mp e]; exact hlo⟩
  · rintro e c ⟨o4, o5, o6, o7, o8, ls, g, m, k, rfl, rfl, hp3, hl, hls⟩
    rw [rngD_len] at hl hp3
    walk_at "g"
    exact .inr ⟨csb_st, .inr (.inl ⟨1, _, rfl, Nat.le_refl 1, rfl, h _ _ _ _ ⟨ls, rfl, fun ys k2 e => by
      injection e with e1 e2
      injection e1 with e1
      injection e2 with e2 _
      injection e2 with e2
      have ex := List.map_inj_right (fun a b h => by injection h) |>.mp e1
      subst ex e2
      exact ⟨hl, hls⟩⟩ (by walk_at "stok")⟩)⟩
def DdOk (xs : List Str) (ls : List Lr) : Dd → Prop
  | .come l => l ∈ ls
  | .go l => l ∈ ls
  | .join a b => a ∈ xs ∧ b ∈ xs
  | .split a => a ∈ xs
  | .free a => a ∈ xs
  | .read a => a ∈ xs
  | .unread a => a ∈ xs
def pre__law_deed : List D → Prop := fun ds => ∃ (xs : List Str) (ls : List Lr), ds = [.list (xs.map .str), .list (ls.map lrD)] ∧ 2 ≤ xs.length ∧ xs.length ≤ 40 ∧ 1 ≤ ls.length ∧ ls.length ≤ 20
def post__law_deed : List D → D → Prop := fun ds r => ∃ d : Dd, r = ddD d ∧ ∀ (xs : List Str) (ls : List Lr), ds = [.list (xs.map .str), .list (ls.map lrD)] → DdOk xs ls d
abbrev as__law_deed : AS := DrawBS 4 pre__law_deed post__law_deed
local macro_rules | `(tactic| walk_at "g1") => `(tactic| ((with_reducible refine' ct_drawB (cost := 4) (pre := pre__law_deed) ?h0 ?h1 ?h2 ?h3 ?h4 ?h5); (case h0 => rfl); (case h1 => rfl); (case h2 => assumption); (case h3 => omega); (case h4 => exact ⟨_, _, rfl, by omega, by omega, by omega, by omega⟩); (rintro _ g' m' c' ⟨dd, e0, hdd⟩ hp'; (try subst e0))))
theorem ok__law_deed (T : Tx K mg base) (S : Ds K mg) : FnOk P w K mg base CX0 3 S._law_deed.f S._law_deed.fd ["_law_state", "_law_pool_here", "_law_letters_here"] (conc K as__law_deed) := by
  refine fn_abs S._law_deed.F sc__law_deed (by walk_at "blen") (fun cdv A outer s H E hr => ?_)
  refine ⟨_, (pss_cons (ps_set (i := 3) sc__law_deed.nd rfl (Or.inl rfl) (pe_ix (kx_ix (K := K) rfl) (pe_lst (pa_cons pe_str (pa_cons pe_str (pa_cons pe_str (pa_cons pe_str (pa_cons pe_str (pa_cons pe_str (pa_cons pe_str (pa_cons pe_str (pa_cons pe_str (pa_cons pe_str pa_nil))))))))))) (pe_call (ok__law_take T S) (hr.mono (by decide)) (by rfl) S._law_take.g S._law_take.F.kp S._law_take.b .nil pass0 (pa_cons (pv 0) (pa_cons pe_int pa_nil))) (fun _ _ => rfl)))
      (pss_cons (ps_if (pt_cmpR (ko_in (K := K) rfl hr.units) (pv 3) (pe_tup (pa_cons pe_str (pa_cons pe_str pa_nil))) rfl) (pss_one (ps_ret (pe_tup (pa_cons (pv 3) (pa_cons (pe_call (ok__law_of T S) (hr.mono (by decide)) (by rfl) S._law_of.g S._law_of.F.kp S._law_of.b .nil pass0 (pa_cons (pv 0) (pa_cons (pv 2) pa_nil))) pa_nil)))))
      pss_nil)
      (pss_cons (ps_set (i := 4) sc__law_deed.nd rfl (Or.inl rfl) (pe_call (ok__law_take T S) (hr.mono (by decide)) (by rfl) S._law_take.g S._law_take.F.kp S._law_take.b .nil pass0 (pa_cons (pv 0) (pa_cons (pe_callB (kc_len (K := K) rfl) (by rfl) T.m_len PySem.boot_len (pa_cons (pv 1) pa_nil)) pa_nil))))
      (pss_cons (ps_if (pt_cmpR (ko_eq (K := K) rfl hr.units) (pv 3) pe_str (nomark _)) (pss_one (ps_ret (pe_tup (pa_cons (pv 3) (pa_cons (pe_ix (kx_ix (K := K) rfl) (pv 1) (pv 4) (fun _ _ => rfl)) (pa_cons (pe_ix (kx_ix (K := K) rfl) (pv 1) (pe_op op_mod (pe_op (ko_add (K := K) rfl) (pe_op (ko_add (K := K) rfl) (pv 4) pe_int) (pe_call (ok__law_take T S) (hr.mono (by decide)) (by rfl) S._law_take.g S._law_take.F.kp S._law_take.b .nil pass0 (pa_cons (pv 0) (pa_cons (pe_op op_sub (pe_callB (kc_len (K := K) rfl) (by rfl) T.m_len PySem.boot_len (pa_cons (pv 1) pa_nil)) pe_int) pa_nil)))) (pe_callB (kc_len (K := K) rfl) (by rfl) T.m_len PySem.boot_len (pa_cons (pv 1) pa_nil))) (fun _ _ => rfl)) pa_nil))))))
      pss_nil)
      (pss_one (ps_ret (pe_tup (pa_cons (pv 3) (pa_cons (pe_ix (kx_ix (K := K) rfl) (pv 1) (pv 4) (fun _ _ => rfl)) pa_nil))))))))), ?_⟩
  rintro args cs Φ ⟨n, g, m, c, _, rfl, rfl, hp, hn, ⟨xs, ls, rfl, hx1, hx2, hl1, hl2⟩, h⟩
  show wpS K _ [some (.cel 0), some (.dat (.list (xs.map .str))), some (.dat (.list (ls.map lrD))), none, none] [stC g m c] _
  have hml : (xs.map PyData.str).length = xs.length := List.length_map ..
  have hml2 : (ls.map lrD).length = ls.length := List.length_map ..
  refine ws_stop ?_
  walk_at "g"
  rename_i r g1 m1 c1 hr0 hr1 hp1 z hz
  refine hold (ws_seq (ws_if (wt_test ?_)))
  walk_at "g"
  refine ⟨fun hb => ?_, fun hb => ws_next ?_⟩
  · have hb := of_decide_eq_true hb
    walk_at "g"
    rename_i d0 g2 m2 c2 hof hp2
    obtain ⟨l, hl, rfl⟩ := List.mem_map.mp (hof _ rfl)
    refine .inr ⟨csb_st, .inl ⟨_, rfl, h _ _ _ _ ?_ (by walk_at "stok")⟩⟩
    have hfin : ∀ d, (∀ xs ls, DdOk xs ls d ↔ l ∈ ls) → ddD d = .tuple [.str z, lrD l] → post__law_deed [.list (xs.map .str), .list (ls.map lrD)] (.tuple [.str z, lrD l]) := fun d h1 h2 => ⟨d, h2.symm, fun ys ks e => by
      injection e with e1 e2
      injection e2 with e2 _
      injection e2 with e2
      have ey := List.map_inj_right (fun a b h => lr_inj h) |>.mp e2
      rw [h1, ← ey]
      exact hl⟩
    rcases List.mem_cons.mp hb with rfl | hb
    · exact hfin (.come l) (fun _ _ => Iff.rfl) rfl
    · rw [List.mem_singleton.mp hb]
      rw [List.mem_singleton.mp hb] at hfin
      exact hfin (.go l) (fun _ _ => Iff.rfl) rfl
  have hb := of_decide_eq_false hb
  refine ws_stop ?_
  walk_at "g"
  rename_i r2 g2 m2 c2 hr20 hr21 hp2
  refine hold (ws_seq (ws_if (wt_test ?_)))
  walk_at "g"
  refine ⟨fun hb2 => ?_, fun hb2 => ws_next ?_⟩
  · have hb2 := of_decide_eq_true hb2
    walk_at "g"
    rename_i d1 hd1 he1 r3 g3 m3 c3 hr30 hr31 hp3
    have hmod : 0 ≤ (r2 + 1 + r3) % ((xs.map PyData.str).length : Int) ∧ (r2 + 1 + r3) % ((xs.map PyData.str).length : Int) < ((xs.map PyData.str).length : Int) := ⟨Int.emod_nonneg _ (by omega), Int.emod_lt_of_pos _ (by omega)⟩
    generalize (r2 + 1 + r3) % ((xs.map PyData.str).length : Int) = t at hmod ⊢
    walk_at "g"
    rename_i d2 hd2 he2
    obtain ⟨a, ha, rfl⟩ := List.mem_map.mp hd1
    obtain ⟨b, hb3, rfl⟩ := List.mem_map.mp hd2
    refine .inr ⟨csb_st, .inl ⟨_, rfl, h _ _ _ _ ⟨.join a b, by rw [hb2]; rfl, fun ys ks e => ?_⟩ (by walk_at "stok")⟩⟩
    injection e with e1 e2
    injection e1 with e1
    have ex := List.map_inj_right (fun a b h => by injection h) |>.mp e1
    rw [← ex]
    exact ⟨ha, hb3⟩
  have hb2 := of_decide_eq_false hb2
  walk_at "g"
  rename_i d1 hd1 he1
  obtain ⟨a, ha, rfl⟩ := List.mem_map.mp hd1
  refine .inr ⟨csb_st, .inl ⟨_, rfl, h _ _ _ _ ?_ (by walk_at "stok")⟩⟩
  have hfin : ∀ d, (∀ xs ls, DdOk xs ls d ↔ a ∈ xs) → ddD d = .tuple [.str z, .str a] → post__law_deed [.list (xs.map .str), .list (ls.map lrD)] (.tuple [.str z, .str a]) := fun d h1 h2 => ⟨d, h2.symm, fun ys ks e => by
    injection e with e1 e2
    injection e1 with e1
    have ex := List.map_inj_right (fun a b h => by injection h) |>.mp e1
    rw [h1, ← ex]
    exact ha⟩
  rcases hz with rfl | rfl | rfl | rfl | rfl | rfl | rfl | rfl | rfl | rfl
  · exact (hb (List.mem_cons_self ..)).elim
  · exact (hb (List.mem_cons_self ..)).elim
  · exact (hb (List.mem_cons_self ..)).elim
  · exact (hb (List.mem_cons_of_mem _ (List.mem_cons_self ..))).elim
  · exact (hb2 rfl).elim
  · exact (hb2 rfl).elim
  · exact hfin (.split a) (fun _ _ => Iff.rfl) rfl
  · exact hfin (.free a) (fun _ _ => Iff.rfl) rfl
  · exact hfin (.read a) (fun _ _ => Iff.rfl) rfl
  · exact hfin (.unread a) (fun _ _ => Iff.rfl) rfl
inductive Tg where
  | lt (l : Lr)
  | hd (a : Str)
  | rd (a : Str)
deriving DecidableEq
def tgOf : Dd → Tg
  | .come l => .lt l
  | .go l => .lt l
  | .join a _ => .hd a
  | .split a => .hd a
  | .free a => .hd a
  | .read a => .rd a
  | .unread a => .rd a
def tgD : Tg → D
  | .lt l => .tuple [.str (Str.ofString "letter"), lrD l]
  | .hd a => .tuple [.str (Str.ofString "hand"), .str a]
  | .rd a => .tuple [.str (Str.ofString "read"), .str a]
def saidL (lg : List (Dd × Bool)) : List (Tg × Dd) := lg.foldl (fun S p => if p.2 then ptG S (tgOf p.1) p.1 else S) []
def saK (S : List (Tg × Dd)) : KyD := S.map fun p => (tgD p.1, .dat (ddD p.2))
def stepS (S : List (Tg × Dd)) (p : Dd × Bool) : List (Tg × Dd) := if p.2 then ptG S (tgOf p.1) p.1 else S
theorem said_succ {lg : List (Dd × Bool)} {j : Nat} {p : Dd × Bool} (h : lg[j]? = some p) : saidL (lg.take (j + 1)) = stepS (saidL (lg.take j)) p := by
  unfold saidL
  rw [List.take_succ, h, List.foldl_append]
  rfl
theorem said_len (lg : List (Dd × Bool)) : (saidL lg).length ≤ lg.length := by
  have key : ∀ (lg : List (Dd × Bool)) (S : List (Tg × Dd)), (lg.foldl stepS S).length ≤ S.length + lg.length := fun lg => by
    induction lg with
    | nil => exact fun S => Nat.le_refl _
    | cons p r ih =>
      intro S
      have h1 := ih (stepS S p)
      have h2 : (stepS S p).length ≤ S.length + 1 := by
        unfold stepS
        split
        · exact ptG_len
        · exact Nat.le_succ _
      rw [List.foldl_cons, List.length_cons]
      omega
  have h := key lg []
  have e : ([] : List (Tg × Dd)).length = 0 := rfl
  rw [e] at h
  have h3 : (saidL lg).length ≤ 0 + lg.length := h
  omega
def kiD : Dd → Str
  | .come _ => Str.ofString "letter"
  | .go _ => Str.ofString "letter"
  | .join _ _ => Str.ofString "hand"
  | .split _ => Str.ofString "hand"
  | .free _ => Str.ofString "hand"
  | .read _ => Str.ofString "read"
  | .unread _ => Str.ofString "read"
theorem ki_L {d : Dd} (h : wdD d ∈ [Str.ofString "come", Str.ofString "go"]) : kiD d = Str.ofString "letter" := by
  cases d with
  | come l => rfl
  | go l => rfl
  | join a b => exact absurd h (by simp only [wdD]; decide +kernel)
  | split a => exact absurd h (by simp only [wdD]; decide +kernel)
  | free a => exact absurd h (by simp only [wdD]; decide +kernel)
  | read a => exact absurd h (by simp only [wdD]; decide +kernel)
  | unread a => exact absurd h (by simp only [wdD]; decide +kernel)
theorem ki_R {d : Dd} (h : wdD d ∈ [Str.ofString "read", Str.ofString "unread"]) : kiD d = Str.ofString "read" := by
  cases d with
  | come l => exact absurd h (by simp only [wdD]; decide +kernel)
  | go l => exact absurd h (by simp only [wdD]; decide +kernel)
  | join a b => exact absurd h (by simp only [wdD]; decide +kernel)
  | split a => exact absurd h (by simp only [wdD]; decide +kernel)
  | free a => exact absurd h (by simp only [wdD]; decide +kernel)
  | read a => rfl
  | unread a => rfl
theorem ki_H {d : Dd} (h : ¬ wdD d ∈ [Str.ofString "come", Str.ofString "go"]) (h2 : ¬ wdD d ∈ [Str.ofString "read", Str.ofString "unread"]) : kiD d = Str.ofString "hand" := by
  cases d with
  | come l => exact (h (by simp only [wdD]; decide +kernel)).elim
  | go l => exact (h (by simp only [wdD]; decide +kernel)).elim
  | join a b => rfl
  | split a => rfl
  | free a => rfl
  | read a => exact (h2 (by simp only [wdD]; decide +kernel)).elim
  | unread a => exact (h2 (by simp only [wdD]; decide +kernel)).elim
theorem dd_tg (d : Dd) : ∃ z t zr, ddD d = .tuple (z :: t :: zr) ∧ tgD (tgOf d) = .tuple [.str (kiD d), t] := by
  cases d <;> exact ⟨_, _, _, rfl, rfl⟩
theorem tg_kyP (t : Tg) : kyP (tgD t) = true := by
  cases t with
  | lt l => simp [tgD, kyP, kyPs, lr_kyP]
  | hd a => rfl
  | rd a => rfl
theorem tg_inj {a b : Tg} (h : tgD a = tgD b) : a = b := by
  cases a with
  | lt x =>
    cases b with
    | lt y =>
      dsimp only [tgD] at h
      injection h with h
      injection h with _ h
      injection h with h _
      rw [lr_inj h]
    | hd y =>
      dsimp only [tgD] at h
      injection h with h
      injection h with h _
      injection h with h
      exact absurd h (by decide +kernel)
    | rd y =>
      dsimp only [tgD] at h
      injection h with h
      injection h with h _
      injection h with h
      exact absurd h (by decide +kernel)
  | hd x =>
    cases b with
    | lt y =>
      dsimp only [tgD] at h
      injection h with h
      injection h with h _
      injection h with h
      exact absurd h (by decide +kernel)
    | hd y =>
      dsimp only [tgD] at h
      injection h with h
      injection h with _ h
      injection h with h _
      injection h with h
      rw [h]
    | rd y =>
      dsimp only [tgD] at h
      injection h with h
      injection h with h _
      injection h with h
      exact absurd h (by decide +kernel)
  | rd x =>
    cases b with
    | lt y =>
      dsimp only [tgD] at h
      injection h with h
      injection h with h _
      injection h with h
      exact absurd h (by decide +kernel)
    | hd y =>
      dsimp only [tgD] at h
      injection h with h
      injection h with h _
      injection h with h
      exact absurd h (by decide +kernel)
    | rd y =>
      dsimp only [tgD] at h
      injection h with h
      injection h with _ h
      injection h with h _
      injection h with h
      rw [h]
theorem tg_ky (t : Tg) : KyOk (tgD t) := by
  cases t with
  | lt l =>
    refine ⟨⟨_, rfl⟩, tg_kyP _, ?_⟩
    unfold tgD lrD
    simp [kyN, kyNs, NestedKey.depth, NestedKey.depthAll, kd_strs]
  | hd a =>
    refine ⟨⟨_, rfl⟩, tg_kyP _, ?_⟩
    simp [tgD, kyN, kyNs, NestedKey.depth, NestedKey.depthAll]
  | rd a =>
    refine ⟨⟨_, rfl⟩, tg_kyP _, ?_⟩
    simp [tgD, kyN, kyNs, NestedKey.depth, NestedKey.depthAll]
theorem sa_keys (S : List (Tg × Dd)) : ∀ p, p ∈ saK S → KyOk p.1 := fun p hp => by
  obtain ⟨q, _, rfl⟩ := List.mem_map.mp hp
  exact tg_ky q.1
theorem sa_put (S : List (Tg × Dd)) (t : Tg) (d : Dd) : ptY (saK S) (tgD t) (.dat (ddD d)) = saK (ptG S t d) := ptG_Y tgD (fun d => .dat (ddD d)) (fun a b e => tg_inj (kyN_inj _ _ (tg_kyP a) (tg_kyP b) e)) S t d
abbrev as__law_said (P : Program) (w : World) (K : PySem.W.Frag) : AS := fun args cs Φ => ∃ lg : List (Dd × Bool), args = [.dat (.tuple (lg.map lgP))] ∧ cs = [] ∧ lg.length ≤ 900 ∧ Φ (.cel 0) [kdC w (saK (saidL lg))]
theorem ok__law_said (T : Tx K mg base) (S : Ds K mg) : FnOk P w K mg base CX0 1 S._law_said.f S._law_said.fd ["_law_log"] (conc K (as__law_said P w K)) := by
  refine fn_absE S._law_said.F sc__law_said (by rintro _ _ _ ⟨_, rfl, _⟩; rfl) (fun cdv A outer s H E hr => ?_)
  refine ⟨_, (pss_cons (ps_set (i := 1) sc__law_said.nd rfl (Or.inl rfl) (pe_knew (w := w) rfl))
      (pss_cons (ps_for PassesOwn.never rfl (ki_tup (K := K) rfl (pv 0)) (kg_tup (K := K) rfl (by rfl) (pgs_cons (pg_name (i := 2) sc__law_said.nd rfl (Or.inl rfl)) (pgs_cons (pg_name (i := 3) sc__law_said.nd rfl (Or.inl rfl)) pgs_nil)))
      (pss_cons (ps_set (i := 4) sc__law_said.nd rfl (Or.inl rfl) (pe_ifExp (pt_cmpR (ko_in (K := K) rfl hr.units) (pe_ix (kx_ix (K := K) rfl) (pv 2) pe_int (fun _ _ => rfl)) (pe_tup (pa_cons pe_str (pa_cons pe_str pa_nil))) rfl) pe_str (pe_ifExp (pt_cmpR (ko_in (K := K) rfl hr.units) (pe_ix (kx_ix (K := K) rfl) (pv 2) pe_int (fun _ _ => rfl)) (pe_tup (pa_cons pe_str (pa_cons pe_str pa_nil))) rfl) pe_str pe_str)))
      (pss_one (ps_if (pt_val (pv 3)) (pss_one (ps_kput (K := K) (w := w) rfl rfl hr.units (pv 1) (pe_tup (pa_cons (pv 4) (pa_cons (pe_ix (kx_ix (K := K) rfl) (pv 2) pe_int (fun _ _ => rfl)) pa_nil))) (pv 2) rfl))
      pss_nil))))
      (pss_one (ps_ret (pv 1))))), ?_⟩
  rintro args cs Φ ⟨lg, rfl, rfl, hl, h⟩
  show wpS K _ [some (.dat (.tuple (lg.map lgP))), none, none, none, none] [] _
  refine ws_seq (ws_asg (we_knew (wg_name ?_)))
  show wpS K _ [some (.dat (.tuple (lg.map lgP))), some (.cel 0), none, none, none] [kdC w []] _
  refine ws_seq (ws_for (wi_tup (we_var rfl ⟨_, rfl, fun j e c => ∃ (o2 o3 o4 : Option Vl), e = [some (.dat (.tuple (lg.map lgP))), some (.cel 0), o2, o3, o4] ∧ c = [kdC w (saK (saidL (lg.take j)))], ⟨_, _, _, rfl, rfl⟩, fun _ _ _ _ _ => trivial, ?_, ?_⟩)))
  · rintro j d e c hd ⟨o2, o3, o4, rfl, rfl⟩
    obtain ⟨⟨d, b⟩, hp, rfl⟩ := get_map hd
    have htl : (lg.take j).length ≤ 900 := Nat.le_trans (List.length_take_le ..) (by
      have := (List.getElem?_eq_some_iff.mp hp).1
      omega)
    have hs := said_succ hp
    have hsl := said_len (lg.take j)
    generalize saidL (lg.take j) = X at hs hsl ⊢
    refine wg_tup rfl rfl (wgs_mc (wg_name (wgs_mc (wg_name (wgs_mn ?_)))))
    show wpS K _ [some (.dat (.tuple (lg.map lgP))), some (.cel 0), some (.dat (ddD d)), some (.dat (.bool b)), o4] [kdC w (saK X)] _
    refine ws_seq (ws_asg (wpE.mono (Φ := fun y c => y = .dat (.str (kiD d)) ∧ c = [kdC w (saK X)]) ?_ fun y c hy => ?_))
    · obtain ⟨r, hrd⟩ := dd_wd d
      rw [hrd]
      walk_at "g"
      refine ⟨fun hb => ?_, fun hb => ?_⟩
      · walk_at "g"
        exact ⟨by rw [ki_L (of_decide_eq_true hb)], rfl⟩
      walk_at "g"
      refine ⟨fun hb2 => ?_, fun hb2 => ?_⟩
      · walk_at "g"
        exact ⟨by rw [ki_R (of_decide_eq_true hb2)], rfl⟩
      · walk_at "g"
        exact ⟨by rw [ki_H (of_decide_eq_false hb) (of_decide_eq_false hb2)], rfl⟩
    · rw [hy.1, hy.2]
      refine wg_name ?_
      show wpS K _ [some (.dat (.tuple (lg.map lgP))), some (.cel 0), some (.dat (ddD d)), some (.dat (.bool b)), some (.dat (.str (kiD d)))] [kdC w (saK X)] _
      refine ws_if (wt_B (we_var rfl ⟨b, rfl, fun hb => ?_, fun hb => ws_next ?_⟩))
      · subst hb
        obtain ⟨z, t, zr, hz, ht⟩ := dd_tg d
        refine ws_kput (we_var rfl (we_var rfl (we_tupX (wa_cons (we_var rfl (wa_cons (we_op (we_var rfl (we_int (wu_ixT (d := t) (congrArg Vl.dat hz) rfl (atI_nat (j := 1) rfl) ?_))))))))))
        refine wa_nil ⟨[.str (kiD d), t], rfl, Nat.le_of_ble_eq_true rfl, ?_⟩
        rw [← ht]
        refine ⟨0, saK X, tgD (tgOf d), rfl, rfl, rfl, sa_keys X, tg_ky _, by rw [show (saK X).length = X.length from List.length_map ..]; omega, _, _, _, rfl, ?_⟩
        rw [hs, sa_put]
        rfl
      · subst hb
        exact ⟨_, _, _, rfl, by rw [hs]; rfl⟩
  · rintro e c ⟨o2, o3, o4, rfl, rfl⟩
    rw [List.length_map, List.take_length]
    exact ws_ret (we_var rfl h)
theorem ptG_fm {α β γ δ : Type} [DecidableEq α] [DecidableEq γ] (k : α → Option γ) (v : β → δ) (hk : ∀ a b c, k a = some c → k b = some c → a = b) (f : α × β → Option (γ × δ)) (hf : ∀ q, f q = (k q.1).map fun c => (c, v q.2)) (S : List (α × β)) (a : α) (b : β) : (∀ c, k a = some c → (ptG S a b).filterMap f = ptG (S.filterMap f) c (v b)) ∧ (k a = none → (ptG S a b).filterMap f = S.filterMap f) := by
  have e1 : ∀ (q : α × β), k a = none → f (if q.1 = a then (q.1, b) else q) = f q := fun q h => by
    by_cases e : q.1 = a
    · rw [if_pos e, hf, hf]
      dsimp only
      rw [e, h]
      rfl
    · rw [if_neg e]
  have e2 : ∀ (q : α × β) c, k a = some c → f (if q.1 = a then (q.1, b) else q) = (f q).map fun p => if p.1 = c then (p.1, v b) else p := fun q c h => by
    by_cases e : q.1 = a
    · rw [if_pos e, hf, hf]
      dsimp only
      rw [e, h]
      simp
    · rw [if_neg e, hf]
      cases hq : k q.1 with
      | none => rfl
      | some c2 =>
        have n : c2 ≠ c := fun ec => e (hk _ _ _ (hq.trans (congrArg some ec)) h)
        simp [n]
  refine ⟨fun c hc => ?_, fun hn => ?_⟩
  · unfold ptG
    have ha : S.any (fun p => decide (p.1 = a)) = (S.filterMap f).any (fun p => decide (p.1 = c)) := by
      rw [Bool.eq_iff_iff, List.any_eq_true, List.any_eq_true]
      constructor
      · rintro ⟨q, hq, e⟩
        have e := of_decide_eq_true e
        exact ⟨(c, v q.2), List.mem_filterMap.mpr ⟨q, hq, by rw [hf, e, hc]; rfl⟩, decide_eq_true rfl⟩
      · rintro ⟨p, hp, e⟩
        have e := of_decide_eq_true e
        obtain ⟨q, hq, eq⟩ := List.mem_filterMap.mp hp
        rw [hf] at eq
        cases hk2 : k q.1 with
        | none => rw [hk2] at eq; exact nomatch eq
        | some c2 =>
          rw [hk2] at eq
          have eq : (c2, v q.2) = p := Option.some.inj eq
          rw [← eq] at e
          exact ⟨q, hq, decide_eq_true (hk _ _ _ (hk2.trans (congrArg some e)) hc)⟩
    rw [← ha]
    split
    · rw [List.filterMap_map, List.map_filterMap]
      refine congrArg (List.filterMap · S) (funext fun q => ?_)
      exact e2 q c hc
    · rw [List.filterMap_append]
      have e : f (a, b) = some (c, v b) := by rw [hf, hc]; rfl
      simp [e]
  · unfold ptG
    split
    · rw [List.filterMap_map]
      exact congrArg (List.filterMap · S) (funext fun q => e1 q hn)
    · rw [List.filterMap_append]
      have e : f (a, b) = none := by rw [hf, hn]; rfl
      simp [e]
def kLt : Tg → Option Lr
  | .lt l => some l
  | _ => none
def kHd : Tg → Option Str
  | .hd a => some a
  | _ => none
def kRd : Tg → Option Str
  | .rd a => some a
  | _ => none
def vLt : Dd → Bool
  | .come _ => true
  | _ => false
def vHd : Dd → Bool × Option Str
  | .join _ b => (true, some b)
  | .split _ => (true, none)
  | _ => (false, none)
def vRd : Dd → Bool
  | .read _ => true
  | _ => false
def fLt (q : Tg × Dd) : Option (Lr × Bool) := (kLt q.1).map fun c => (c, vLt q.2)
def fHd (q : Tg × Dd) : Option (Str × Bool × Option Str) := (kHd q.1).map fun c => (c, vHd q.2)
def fRd (q : Tg × Dd) : Option (Str × Bool) := (kRd q.1).map fun c => (c, vRd q.2)
theorem kLt_inj (a b : Tg) (c : Lr) (h1 : kLt a = some c) (h2 : kLt b = some c) : a = b := by
  cases a with
  | lt x =>
    cases b with
    | lt y => rw [Option.some.inj h1, Option.some.inj h2]
    | _ => exact nomatch h2
  | _ => exact nomatch h1
theorem kHd_inj (a b : Tg) (c : Str) (h1 : kHd a = some c) (h2 : kHd b = some c) : a = b := by
  cases a with
  | hd x =>
    cases b with
    | hd y => rw [Option.some.inj h1, Option.some.inj h2]
    | _ => exact nomatch h2
  | _ => exact nomatch h1
theorem kRd_inj (a b : Tg) (c : Str) (h1 : kRd a = some c) (h2 : kRd b = some c) : a = b := by
  cases a with
  | rd x =>
    cases b with
    | rd y => rw [Option.some.inj h1, Option.some.inj h2]
    | _ => exact nomatch h2
  | _ => exact nomatch h1
structure SaLf (S : List (Tg × Dd)) (x : Lf) : Prop where
  L : x.L = S.filterMap fLt
  h : x.h = S.filterMap fHd
  r : x.r = S.filterMap fRd
  k : ∀ q, q ∈ S → tgOf q.2 = q.1
  n : (S.map (·.1)).Nodup
theorem salf_leave {S : List (Tg × Dd)} {x : Lf} (s : SaLf S x) (d : Dd) : SaLf (ptG S (tgOf d) d) (x.leave d) := by
  have p1 := ptG_fm kLt vLt kLt_inj fLt (fun _ => rfl) S (tgOf d) d
  have p2 := ptG_fm kHd vHd kHd_inj fHd (fun _ => rfl) S (tgOf d) d
  have p3 := ptG_fm kRd vRd kRd_inj fRd (fun _ => rfl) S (tgOf d) d
  have hk : ∀ q, q ∈ ptG S (tgOf d) d → tgOf q.2 = q.1 := fun q hq => by
    rcases ptG_mem hq with hq | rfl
    · exact s.k q hq
    · rfl
  have hn := ptG_keys (a := tgOf d) (b := d) s.n
  cases d with
  | come l => exact ⟨by rw [p1.1 l rfl, ← s.L]; rfl, by rw [p2.2 rfl, ← s.h]; rfl, by rw [p3.2 rfl, ← s.r]; rfl, hk, hn⟩
  | go l => exact ⟨by rw [p1.1 l rfl, ← s.L]; rfl, by rw [p2.2 rfl, ← s.h]; rfl, by rw [p3.2 rfl, ← s.r]; rfl, hk, hn⟩
  | join a b => exact ⟨by rw [p1.2 rfl, ← s.L]; rfl, by rw [p2.1 a rfl, ← s.h]; rfl, by rw [p3.2 rfl, ← s.r]; rfl, hk, hn⟩
  | split a => exact ⟨by rw [p1.2 rfl, ← s.L]; rfl, by rw [p2.1 a rfl, ← s.h]; rfl, by rw [p3.2 rfl, ← s.r]; rfl, hk, hn⟩
  | free a => exact ⟨by rw [p1.2 rfl, ← s.L]; rfl, by rw [p2.1 a rfl, ← s.h]; rfl, by rw [p3.2 rfl, ← s.r]; rfl, hk, hn⟩
  | read a => exact ⟨by rw [p1.2 rfl, ← s.L]; rfl, by rw [p2.2 rfl, ← s.h]; rfl, by rw [p3.1 a rfl, ← s.r]; rfl, hk, hn⟩
  | unread a => exact ⟨by rw [p1.2 rfl, ← s.L]; rfl, by rw [p2.2 rfl, ← s.h]; rfl, by rw [p3.1 a rfl, ← s.r]; rfl, hk, hn⟩
theorem said_left (lg : List (Dd × Bool)) : SaLf (saidL lg) (leftL lg) := by
  have key : ∀ (lg : List (Dd × Bool)) S x, SaLf S x → SaLf (lg.foldl stepS S) (lg.foldl stepL x) := fun lg => by
    induction lg with
    | nil => exact fun S x h => h
    | cons p r ih =>
      intro S x h
      refine ih _ _ ?_
      unfold stepS stepL
      split
      · exact salf_leave h _
      · exact h
  exact key lg _ _ ⟨rfl, rfl, rfl, (fun _ h => nomatch h), List.nodup_nil⟩
def isCm : Dd → Bool
  | .come _ => true
  | _ => false
def isJs : Dd → Bool
  | .join _ _ => true
  | .split _ => true
  | _ => false
def isRe : Dd → Bool
  | .read _ => true
  | _ => false
def upOf : Dd → Option Str
  | .join _ b => some b
  | _ => none
def tg2 : Tg → D
  | .lt l => lrD l
  | .hd a => .str a
  | .rd a => .str a
theorem tg_two (t : Tg) : ∃ z, tgD t = .tuple [z, tg2 t] := by cases t <;> exact ⟨_, rfl⟩
theorem said_pack {S : List (Tg × Dd)} (hk : ∀ q, q ∈ S → tgOf q.2 = q.1) : (S.filter fun q => isCm q.2).map (fun q => tg2 q.1) = (((S.filterMap fLt).filter fun p => p.2).map (·.1)).map lrD := by
  induction S with
  | nil => rfl
  | cons q S ih =>
    have ih := ih fun q hq => hk q (List.mem_cons_of_mem _ hq)
    have h0 := hk q (List.mem_cons_self ..)
    obtain ⟨t, d⟩ := q
    dsimp only at h0
    subst h0
    cases d with
    | come l =>
      rw [List.filter_cons_of_pos rfl, List.filterMap_cons_some (f := fLt) (b := (l, true)) rfl, List.filter_cons_of_pos rfl, List.map_cons, List.map_cons, List.map_cons, ih]
      exact congrArg (· :: _) rfl
    | go l =>
      rw [List.filter_cons_of_neg Bool.false_ne_true, List.filterMap_cons_some (f := fLt) (b := (l, false)) rfl, List.filter_cons_of_neg Bool.false_ne_true, ih]
    | _ => rw [List.filter_cons_of_neg Bool.false_ne_true, List.filterMap_cons_none (f := fLt) rfl, ih]
theorem said_reads {S : List (Tg × Dd)} (hk : ∀ q, q ∈ S → tgOf q.2 = q.1) : (S.filter fun q => isRe q.2).map (fun q => tg2 q.1) = (((S.filterMap fRd).filter fun p => p.2).map (·.1)).map PyData.str := by
  induction S with
  | nil => rfl
  | cons q S ih =>
    have ih := ih fun q hq => hk q (List.mem_cons_of_mem _ hq)
    have h0 := hk q (List.mem_cons_self ..)
    obtain ⟨t, d⟩ := q
    dsimp only at h0
    subst h0
    cases d with
    | read l =>
      rw [List.filter_cons_of_pos rfl, List.filterMap_cons_some (f := fRd) (b := (l, true)) rfl, List.filter_cons_of_pos rfl, List.map_cons, List.map_cons, List.map_cons, ih]
      exact congrArg (· :: _) rfl
    | unread l =>
      rw [List.filter_cons_of_neg Bool.false_ne_true, List.filterMap_cons_some (f := fRd) (b := (l, false)) rfl, List.filter_cons_of_neg Bool.false_ne_true, ih]
    | _ => rw [List.filter_cons_of_neg Bool.false_ne_true, List.filterMap_cons_none (f := fRd) rfl, ih]
/-- the marks as the law's loop gathers them -/
def mksS (S : List (Tg × Dd)) : List Mk := ((S.filterMap fHd).filter fun p => p.2.1).map fun p => (p.1, p.2.2)
theorem mksS_app (S : List (Tg × Dd)) (q : Tg × Dd) : mksS (S ++ [q]) = mksS S ++ mksS [q] := by
  unfold mksS
  rw [List.filterMap_append, List.filter_append, List.map_append]
theorem mksS_no (t : Tg) {d : Dd} (h : isJs d = false) : mksS [(t, d)] = [] := by
  cases t with
  | hd a =>
    cases d with
    | join a b => exact nomatch h
    | split a => exact nomatch h
    | _ => rfl
  | _ => rfl
theorem mksS_yes {t : Tg} {d : Dd} (hk : tgOf d = t) (h : isJs d = true) : ∃ a, t = .hd a ∧ mksS [(t, d)] = [(a, upOf d)] := by
  subst hk
  cases d with
  | join a b => exact ⟨a, rfl, rfl⟩
  | split a => exact ⟨a, rfl, rfl⟩
  | _ => exact nomatch h
theorem mksS_succ {S : List (Tg × Dd)} {j : Nat} {q : Tg × Dd} (h : S[j]? = some q) : mksS (S.take (j + 1)) = mksS (S.take j) ++ mksS [q] := by
  rw [List.take_succ, h]
  exact mksS_app _ q
theorem shC_sa {w : World} {S : List (Tg × Dd)} {n : Nat} : shC n (kdC w (saK S)) = kdC w (saK S) := by
  show Cell.dcx _ ((saK S).map _) = _
  unfold saK
  rw [List.map_map]
  rfl
theorem sa_get {S : List (Tg × Dd)} (nd : (S.map (·.1)).Nodup) {q : Tg × Dd} (hq : q ∈ S) : lkY (saK S) (tgD q.1) = some (.dat (ddD q.2)) := by
  induction S with
  | nil => exact nomatch hq
  | cons p S ih =>
    have e : saK (p :: S) = (tgD p.1, .dat (ddD p.2)) :: saK S := rfl
    rw [e]
    unfold lkY
    rw [List.map_cons, List.nodup_cons] at nd
    rcases List.mem_cons.mp hq with rfl | hq
    · rw [List.find?_cons_of_pos (by exact decide_eq_true rfl)]
      rfl
    · rw [List.find?_cons_of_neg]
      · exact ih nd.2 hq
      · intro h
        have h := of_decide_eq_true h
        have := tg_inj (kyN_inj _ _ (tg_kyP _) (tg_kyP _) h)
        exact nd.1 (List.mem_map.mpr ⟨q, hq, this.symm⟩)
theorem wd_cm (d : Dd) : decide (wdD d = Str.ofString "come") = isCm d := by
  cases d with
  | come l => exact decide_eq_true rfl
  | _ => exact decide_eq_false (by simp only [wdD]; decide +kernel)
theorem wd_re (d : Dd) : decide (wdD d = Str.ofString "read") = isRe d := by
  cases d with
  | read l => exact decide_eq_true rfl
  | _ => exact decide_eq_false (by simp only [wdD]; decide +kernel)
theorem wd_js (d : Dd) : decide (wdD d ∈ [Str.ofString "join", Str.ofString "split"]) = isJs d := by
  cases d with
  | join a b => exact decide_eq_true (List.mem_cons_self ..)
  | split a => exact decide_eq_true (List.mem_cons_of_mem _ (List.mem_cons_self ..))
  | _ => exact decide_eq_false (by simp only [wdD]; decide +kernel)
theorem wd_jn {d : Dd} (h : wdD d = Str.ofString "join") : ∃ a b, d = .join a b := by
  cases d with
  | join a b => exact ⟨_, _, rfl⟩
  | _ => exact absurd h (by simp only [wdD]; decide +kernel)
theorem wd_nj {d : Dd} (h : ¬ wdD d = Str.ofString "join") : upOf d = none := by
  cases d with
  | join a b => exact (h rfl).elim
  | _ => rfl
theorem sa_ks (S : List (Tg × Dd)) : (saK S).map (·.1) = S.map fun q => tgD q.1 := by
  unfold saK
  rw [List.map_map]
  rfl
theorem mks_len (S : List (Tg × Dd)) : (mksS S).length ≤ S.length := by
  unfold mksS
  rw [List.length_map]
  exact Nat.le_trans (List.length_filter_le _ _) (List.length_filterMap_le _ _)
def rel__law_kept_by : List D → D → Prop := fun ds r => ∃ lg : List (Dd × Bool), ds = [.tuple (lg.map lgP)] ∧ lg.length ≤ 900 ∧ r = .tuple [.tuple ((sortR (packL lg)).map lrD), .tuple ((sortK (marksL lg)).map mkD), .tuple ((sortS (readsL lg)).map .str)]
abbrev as__law_kept_by (P : Program) (w : World) (K : PySem.W.Frag) : AS := PureAS rel__law_kept_by
theorem ok__law_kept_by (T : Tx K mg base) (S : Ds K mg) : FnOk P w K mg base CX0 2 S._law_kept_by.f S._law_kept_by.fd ["_law_log"] (conc K (as__law_kept_by P w K)) := by
  refine fn_abs S._law_kept_by.F sc__law_kept_by (by walk_at "plen") (fun cdv A outer s H E hr => ?_)
  refine ⟨_, (pss_cons (ps_set (i := 1) sc__law_kept_by.nd rfl (Or.inr rfl) (pe_frz (pe_call (ok__law_said (P := P) (w := w) T S) (hr.mono (by decide)) (by rfl) S._law_said.g S._law_said.F.kp S._law_said.b .nil pass0 (pa_cons (pv 0) pa_nil))))
      (pss_cons (ps_set (i := 2) sc__law_kept_by.nd rfl (Or.inl rfl) (pe_callTy (kc_tuple (K := K) rfl) (by rfl) T.m_tuple (by decide +kernel) (pa_cons (pe_callB (kc_sortedA (K := K) rfl hr.units) (by rfl) T.m_sorted (by decide +kernel) (pa_cons (pe_lc (own := [("_law_key", 4)]) (g := (gName 4)) (by rfl) sc__law_kept_by.nd (pi_keysY (w := w) rfl (pv 1)) (blkOk_by (own := [("_law_key", 4)]) (N := ["_law_log", "_law_said_here", "_law_pack", "_law_marks", "_law_key"]) (sc := defScope s__law_kept_by) (by decide +kernel)) (fun _ _ _ _ _ => (pg_name (i := 4) sc__law_kept_by.nd rfl (Or.inl rfl))) (fun _ _ _ _ _ => (pts_one (pt_cmpR (ko_eq (K := K) rfl hr.units) (pe_ix (kx_ix (K := K) rfl) (pe_kgetF (K := K) (w := w) rfl rfl hr.units (pv 1) (pv 4) (fun _ _ => rfl)) pe_int (fun _ _ => rfl)) pe_str (nomark _)))) (fun _ _ _ _ _ => (pe_ix (kx_ix (K := K) rfl) (pv 4) pe_int (fun _ _ => rfl)))) pa_nil)) pa_nil)))
      (pss_cons (ps_set (i := 3) sc__law_kept_by.nd rfl (Or.inl rfl) (pe_lst pa_nil))
      (pss_cons (ps_for PassesOwn.never rfl (pi_keysY (w := w) rfl (pv 1)) (pg_name (i := 4) sc__law_kept_by.nd rfl (Or.inl rfl))
      (pss_one (ps_if (pt_cmpR (ko_in (K := K) rfl hr.units) (pe_ix (kx_ix (K := K) rfl) (pe_kgetF (K := K) (w := w) rfl rfl hr.units (pv 1) (pv 4) (fun _ _ => rfl)) pe_int (fun _ _ => rfl)) (pe_tup (pa_cons pe_str (pa_cons pe_str pa_nil))) rfl) (pss_one (ps_expr (kp_append (K := K) rfl (pv 3) (pa_cons (pe_tup (pa_cons (pe_ix (kx_ix (K := K) rfl) (pv 4) pe_int (fun _ _ => rfl)) (pa_cons (pe_ifExp (pt_cmpR (ko_eq (K := K) rfl hr.units) (pe_ix (kx_ix (K := K) rfl) (pe_kgetF (K := K) (w := w) rfl rfl hr.units (pv 1) (pv 4) (fun _ _ => rfl)) pe_int (fun _ _ => rfl)) pe_str (nomark _)) (pe_ix (kx_ix (K := K) rfl) (pe_kgetF (K := K) (w := w) rfl rfl hr.units (pv 1) (pv 4) (fun _ _ => rfl)) pe_int (fun _ _ => rfl)) pe_non) pa_nil))) pa_nil))))
      pss_nil)))
      (pss_one (ps_ret (pe_tup (pa_cons (pv 2) (pa_cons (pe_callTy (kc_tuple (K := K) rfl) (by rfl) T.m_tuple (by decide +kernel) (pa_cons (pe_callB (kc_sortedA (K := K) rfl hr.units) (by rfl) T.m_sorted (by decide +kernel) (pa_cons (pv 3) pa_nil)) pa_nil)) (pa_cons (pe_callTy (kc_tuple (K := K) rfl) (by rfl) T.m_tuple (by decide +kernel) (pa_cons (pe_callB (kc_sortedA (K := K) rfl hr.units) (by rfl) T.m_sorted (by decide +kernel) (pa_cons (pe_lc (own := [("_law_key", 4)]) (g := (gName 4)) (by rfl) sc__law_kept_by.nd (pi_keysY (w := w) rfl (pv 1)) (blkOk_by (own := [("_law_key", 4)]) (N := ["_law_log", "_law_said_here", "_law_pack", "_law_marks", "_law_key"]) (sc := defScope s__law_kept_by) (by decide +kernel)) (fun _ _ _ _ _ => (pg_name (i := 4) sc__law_kept_by.nd rfl (Or.inl rfl))) (fun _ _ _ _ _ => (pts_one (pt_cmpR (ko_eq (K := K) rfl hr.units) (pe_ix (kx_ix (K := K) rfl) (pe_kgetF (K := K) (w := w) rfl rfl hr.units (pv 1) (pv 4) (fun _ _ => rfl)) pe_int (fun _ _ => rfl)) pe_str (nomark _)))) (fun _ _ _ _ _ => (pe_ix (kx_ix (K := K) rfl) (pv 4) pe_int (fun _ _ => rfl)))) pa_nil)) pa_nil)) pa_nil)))))))))), ?_⟩
  rintro args cs Φ ⟨_, _, rfl, rfl, ⟨lg, rfl, hl, rfl⟩, h⟩
  show wpS K _ [some (.dat (.tuple (lg.map lgP))), none, none, none, none] [] _
  refine ws_seq (ws_asg (we_frzK (w := w) (we_callK (wa_cons (we_var rfl (wa_nil ⟨[.tuple (lg.map lgP)], fun y c => y = .cel 0 ∧ c = [kdC w (saK (saidL lg))], rfl, ⟨lg, rfl, rfl, hl, rfl, rfl⟩, fun y c hy => ?_⟩))))))
  rw [hy.1, hy.2]
  have hsa := said_left lg
  have hsl := said_len lg
  have hmn := marks_nd lg
  have hrn := reads_nd lg
  unfold packL marksL readsL at h
  unfold marksL at hmn
  unfold readsL at hrn
  refine ⟨0, saK (saidL lg), rfl, congrArg some shC_sa, fun od => wg_name ?_⟩
  rw [hsa.L, hsa.h, hsa.r] at h
  rw [hsa.h] at hmn
  rw [hsa.r] at hrn
  have hk := hsa.k
  have hn := hsa.n
  generalize saidL lg = S at hsl h hmn hrn hk hn ⊢
  show wpS K _ [some (.dat (.tuple (lg.map lgP))), some (.cel 0), none, none, none] [kdF w od (saK S)] _
  refine ws_seq (ws_asg (we_gc0 (we_cb (wa_cons (we_cb (wa_cons (we_lcG (go_name (by decide)) (fun q : Tg × Dd => tgD q.1) (fun q => isCm q.2) (fun q => tg2 q.1) (wi_keysY (we_var rfl ⟨0, od, saK S, rfl, rfl, by rw [List.length_map, show (saK S).length = S.length from List.length_map ..]; omega, rfl, S, by unfold saK; rw [List.map_map]; rfl, fun q hq => ?_, ?_⟩)))))))))
  · unfold Each
    refine wg_name ⟨rfl, wt_test (we_op (we_op (we_kgetF (we_var rfl (we_var rfl ⟨0, od, saK S, tgD q.1, .dat (ddD q.2), rfl, rfl, rfl, sa_keys S, tg_ky q.1, sa_get hn hq, ?_⟩)))))⟩
    obtain ⟨r, hrd⟩ := dd_wd q.2
    obtain ⟨z, hz⟩ := tg_two q.1
    rw [hrd]
    walk_at "g"
    refine ⟨wd_cm _, ⟨[], rfl⟩, fun _ => we_op (we_var rfl (we_int (wu_ixT (d := tg2 q.1) (congrArg Vl.dat hz) rfl (atI_nat (j := 1) rfl) XE.mk0)))⟩
  rw [said_pack hk]
  refine wa_nil (wc_sortLr (.cel rfl) (wa_nil (wc_tupL (.cel rfl) ⟨_, _, rfl, rfl, wg_name ?_⟩)))
  generalize ((S.filterMap fLt).filter fun p => p.2).map (·.1) = PK at h ⊢
  refine ws_seq (ws_asg (we_lst (wa_nil ⟨by simp, wg_name ?_⟩)))
  show wpS K _ [some (.dat (.tuple (lg.map lgP))), some (.cel 0), some (.dat (.tuple ((sortR PK).map lrD))), some (.cel 1), none] [kdF w od (saK S), .lst []] _
  refine ws_seq (ws_for (wi_keysY (we_var rfl ⟨0, od, saK S, rfl, rfl, fun j e c => ∃ o4 : Option Vl, e = [some (.dat (.tuple (lg.map lgP))), some (.cel 0), some (.dat (.tuple ((sortR PK).map lrD))), some (.cel 1), o4] ∧ c = [kdF w od (saK S), .lst (((mksS (S.take j)).map mkD).map .dat)], ⟨_, rfl, rfl⟩, ?_, ?_, ?_⟩)))
  · rintro j e c _ ⟨o4, rfl, rfl⟩
    rfl
  · rintro j d e c hd ⟨o4, rfl, rfl⟩
    rw [sa_ks] at hd
    obtain ⟨q, hq0, rfl⟩ := get_map hd
    have hq := List.mem_of_getElem? hq0
    obtain ⟨r, hrd⟩ := dd_wd q.2
    obtain ⟨z, hz⟩ := tg_two q.1
    refine wg_name ?_
    show wpS K _ [some (.dat (.tuple (lg.map lgP))), some (.cel 0), some (.dat (.tuple ((sortR PK).map lrD))), some (.cel 1), some (.dat (tgD q.1))] _ _
    refine ws_if (wt_test (we_op (we_op (we_kgetF (we_var rfl (we_var rfl ⟨0, od, saK S, tgD q.1, .dat (ddD q.2), rfl, rfl, rfl, sa_keys S, tg_ky q.1, sa_get hn hq, ?_⟩))))))
    rw [hrd]
    walk_at "g"
    refine ⟨fun hb => ?_, fun hb => ws_next ⟨_, rfl, ?_⟩⟩
    · rw [wd_js] at hb
      obtain ⟨a, ht, hm⟩ := mksS_yes (hk q hq) hb
      obtain ⟨z2, hz2⟩ : ∃ z, tgD q.1 = .tuple [z, .str a] := by rw [ht]; exact ⟨_, rfl⟩
      rw [mksS_succ hq0, show mksS [q] = _ from hm]
      generalize hM : mksS (S.take j) = M
      have hMl : M.length ≤ 900 := by
        rw [← hM]
        have := mks_len (S.take j)
        have := List.length_take_le' j S
        omega
      refine ws_drop (wv_append (fd := mkD) (we_var rfl ⟨_, rfl, ⟨_, rfl⟩, we_tupX (wa_cons (we_op (we_var rfl (we_int (wu_ixT (d := .str a) (congrArg Vl.dat hz2) rfl (atI_nat (j := 1) rfl) (wa_cons (wpE.mono (Φ := fun y c => y = .dat (optD (upOf q.2)) ∧ c = [kdF w od (saK S), Cell.lst ((M.map mkD).map .dat)]) ?_ fun y c hy => ?_)))))))⟩))
      · refine we_if (wt_test (we_op (we_op (we_kgetF (we_var rfl (we_var rfl ⟨0, od, saK S, tgD q.1, .dat (ddD q.2), rfl, rfl, rfl, sa_keys S, tg_ky q.1, sa_get hn hq, ?_⟩))))))
        rw [hrd]
        walk_at "g"
        refine ⟨fun hb2 => ?_, fun hb2 => ?_⟩
        · obtain ⟨a2, b2, hd2⟩ := wd_jn (of_decide_eq_true hb2)
          refine we_op (we_kgetF (we_var rfl (we_var rfl ⟨0, od, saK S, tgD q.1, .dat (ddD q.2), rfl, rfl, rfl, sa_keys S, tg_ky q.1, sa_get hn hq, ?_⟩)))
          rw [hd2]
          walk_at "g"
          exact ⟨rfl, rfl⟩
        · walk_at "g"
          exact ⟨by rw [wd_nj (of_decide_eq_false hb2)]; rfl, rfl⟩
      · rw [hy.1, hy.2]
        refine wa_nil ⟨_, rfl, Nat.le_of_ble_eq_true rfl, M, (a, upOf q.2), rfl, rfl, by omega, _, rfl, rfl⟩
    · rw [wd_js] at hb
      rw [mksS_succ hq0, show mksS [q] = _ from mksS_no q.1 hb, List.append_nil]
  rintro e c ⟨o4, rfl, rfl⟩
  rw [List.length_map, show (saK S).length = S.length from List.length_map .., List.take_length]
  show wpS K _ [some (.dat (.tuple (lg.map lgP))), some (.cel 0), some (.dat (.tuple ((sortR PK).map lrD))), some (.cel 1), o4] [kdF w od (saK S), .lst (((mksS S).map mkD).map .dat)] _
  refine ws_ret (we_tupX (wa_cons (we_var rfl (wa_cons (we_cb (wa_cons (we_cb (wa_cons (we_var rfl (wa_nil (wc_sortMk (.cel rfl) hmn (wa_nil (wc_tupL (.cel rfl) (wa_cons (we_cb (wa_cons (we_cb (wa_cons (we_lcG (go_name (by decide)) (fun q : Tg × Dd => tgD q.1) (fun q => isRe q.2) (fun q => tg2 q.1) (wi_keysY (we_var rfl ⟨0, od, saK S, rfl, rfl, by rw [List.length_map, show (saK S).length = S.length from List.length_map ..]; omega, rfl, S, by unfold saK; rw [List.map_map]; rfl, fun q hq => ?_, ?_⟩)))))))))))))))))))))
  · unfold Each
    refine wg_name ⟨rfl, wt_test (we_op (we_op (we_kgetF (we_var rfl (we_var rfl ⟨0, od, saK S, tgD q.1, .dat (ddD q.2), rfl, rfl, rfl, sa_keys S, tg_ky q.1, sa_get hn hq, ?_⟩)))))⟩
    obtain ⟨r, hrd⟩ := dd_wd q.2
    obtain ⟨z, hz⟩ := tg_two q.1
    rw [hrd]
    walk_at "g"
    refine ⟨wd_re _, ⟨[], rfl⟩, fun _ => we_op (we_var rfl (we_int (wu_ixT (d := tg2 q.1) (congrArg Vl.dat hz) rfl (atI_nat (j := 1) rfl) XE.mk0)))⟩
  rw [said_reads hk]
  refine wa_nil (wc_sortedD0 (.cel rfl) (pd_map fun _ _ => pd_str) (str_alikeAll _).1 (PySem.W.Sortable.others fun _ => ⟨by simp, by simp⟩) ?_)
  rw [strs_sort hrn]
  exact wa_nil (wc_tupL (.cel rfl) (wa_nil ⟨_, rfl, Nat.le_of_ble_eq_true rfl, .inr ⟨CsB.nil, .inl ⟨_, rfl, h⟩⟩⟩))
def LgIn (xs : List Str) (ls : List Lr) (lg : List (Dd × Bool)) : Prop := ∀ p, p ∈ lg → DdOk xs ls p.1
structure LfIn (xs : List Str) (ls : List Lr) (x : Lf) : Prop where
  L : ∀ p, p ∈ x.L → p.1 ∈ ls
  h : ∀ p, p ∈ x.h → p.1 ∈ xs ∧ ∀ e, p.2.2 = some e → e ∈ xs
  r : ∀ p, p ∈ x.r → p.1 ∈ xs
theorem ptG_all {α β : Type} [DecidableEq α] {S : List (α × β)} {a : α} {b : β} {P : α × β → Prop} (h : ∀ p, p ∈ S → P p) (hn : P (a, b)) : ∀ p, p ∈ ptG S a b → P p := fun p hp => by
  rcases ptG_mem hp with hp | rfl
  · exact h p hp
  · exact hn
theorem leave_in {xs : List Str} {ls : List Lr} {x : Lf} (h : LfIn xs ls x) {d : Dd} (hd : DdOk xs ls d) : LfIn xs ls (x.leave d) := by
  cases d with
  | come l => exact ⟨ptG_all h.L hd, h.h, h.r⟩
  | go l => exact ⟨ptG_all h.L hd, h.h, h.r⟩
  | join a b => exact ⟨h.L, ptG_all h.h ⟨hd.1, fun e he => by cases he; exact hd.2⟩, h.r⟩
  | split a => exact ⟨h.L, ptG_all h.h ⟨hd, fun e he => nomatch he⟩, h.r⟩
  | free a => exact ⟨h.L, ptG_all h.h ⟨hd, fun e he => nomatch he⟩, h.r⟩
  | read a => exact ⟨h.L, h.h, ptG_all h.r hd⟩
  | unread a => exact ⟨h.L, h.h, ptG_all h.r hd⟩
theorem left_in {xs : List Str} {ls : List Lr} {lg : List (Dd × Bool)} (h : LgIn xs ls lg) : LfIn xs ls (leftL lg) := by
  have key : ∀ (lg : List (Dd × Bool)) (x : Lf), LgIn xs ls lg → LfIn xs ls x → LfIn xs ls (lg.foldl stepL x) := fun lg => by
    induction lg with
    | nil => exact fun x _ h => h
    | cons p r ih =>
      intro x h1 h2
      refine ih _ (fun q hq => h1 q (List.mem_cons_of_mem _ hq)) ?_
      unfold stepL
      split
      · exact leave_in h2 (h1 p (List.mem_cons_self ..))
      · exact h2
  exact key lg _ h ⟨(fun _ h => nomatch h), (fun _ h => nomatch h), (fun _ h => nomatch h)⟩
noncomputable def keptD (lg : List (Dd × Bool)) : D := .tuple [.tuple ((sortR (packL lg)).map lrD), .tuple ((sortK (marksL lg)).map mkD), .tuple ((sortS (readsL lg)).map .str)]
theorem nm_sh {x : Str} (h : Nm x) : Sh 122 (.str x) := sh_nm (nm_small h) h.1.2
theorem lr_sh {xs : List Str} (hx : NmsOk xs) {l : Lr} (h : LrOk xs l) : Sh 5000 (lrD l) := by
  obtain ⟨h1, h2, h3, h4, h5, h6⟩ := h
  have pd : PD 50 (lrD l) := (pd_tup (n := 10) (pd_cons pd_str (pd_cons pd_int (pd_cons pd_str (pd_cons (pd_tup (n := 9) (pd_map fun _ _ => pd_str)) pd_nil))))).up (by decide)
  refine (sh_tup (n := 1200) (fun d hd => ?_) pd).mono (by show 4 * (1200 + 2) + 2 ≤ 5000; decide)
  rcases List.mem_cons.mp hd with rfl | hd
  · exact (nm_sh (hx _ h1)).mono (by decide)
  rcases List.mem_cons.mp hd with rfl | hd
  · exact h6.mono (by decide)
  rcases List.mem_cons.mp hd with rfl | hd
  · exact (sh_str (fun c hc => Nat.lt_trans ((head_asc h3.1).1 c hc) (by decide)) (h3.2)).mono (by decide)
  · rw [List.mem_singleton.mp hd]
    refine (sh_list (n := 122) (f := PyData.str) (fun x hx2 => nm_sh (hx _ (h5 x hx2))) fun x _ => pd_str).mono ?_
    omega
theorem kept_sh {xs : List Str} {ls : List Lr} {lg : List (Dd × Bool)} (hx : NmsOk xs) (hl : ∀ l, l ∈ ls → LrOk xs l) (h : LgIn xs ls lg) (hn : lg.length ≤ 100) : Sh 10000000 (keptD lg) := by
  have hi := left_in h
  have hlen := left_len lg
  have pl : ∀ l : Lr, PD 20 (lrD l) := fun l => (pd_tup (n := 10) (pd_cons pd_str (pd_cons pd_int (pd_cons pd_str (pd_cons (pd_tup (n := 9) (pd_map fun _ _ => pd_str)) pd_nil))))).up (by decide)
  have pm : ∀ m : Mk, PD 20 (mkD m) := fun m => (pd_tup (n := 10) (pd_cons pd_str (pd_cons (opt_pd _) pd_nil))).up (by decide)
  have hp : ∀ l, l ∈ sortR (packL lg) → Sh 5000 (lrD l) := fun l hl2 => by
    have h1 : l ∈ packL lg := sortR_mem.mp hl2
    obtain ⟨p, hp, rfl⟩ := List.mem_map.mp h1
    exact lr_sh hx (hl _ (hi.L p (List.mem_filter.mp hp).1))
  have hm : ∀ m, m ∈ sortK (marksL lg) → Sh 250 (mkD m) := fun m hm2 => by
    have h1 : m ∈ marksL lg := (sortK_perm _).mem_iff.mp hm2
    obtain ⟨p, hp, rfl⟩ := List.mem_map.mp h1
    obtain ⟨h2, h3⟩ := hi.h p (List.mem_filter.mp hp).1
    refine (sh_tup (n := 122) (fun d hd => ?_) ((pm _).up (by decide))).mono (by show 2 * (122 + 2) + 2 ≤ 250; decide)
    rcases List.mem_cons.mp hd with rfl | hd
    · exact nm_sh (hx _ h2)
    · rw [List.mem_singleton.mp hd]
      exact sh_opt (L := xs) (fun z hz => nm_sh (hx z hz)) fun z hz => h3 z hz
  have hr : ∀ a, a ∈ sortS (readsL lg) → Sh 122 (.str a) := fun a ha => by
    have h1 : a ∈ readsL lg := sortS_mem.mp ha
    obtain ⟨p, hp, rfl⟩ := List.mem_map.mp h1
    exact nm_sh (hx _ (hi.r p (List.mem_filter.mp hp).1))
  have l1 : (sortR (packL lg)).length ≤ 100 := by
    rw [sortR_len]
    unfold packL
    rw [List.length_map]
    have := List.length_filter_le (fun p : Lr × Bool => p.2) (leftL lg).L
    omega
  have l2 : (sortK (marksL lg)).length ≤ 100 := by
    rw [(sortK_perm _).length_eq]
    unfold marksL
    rw [List.length_map]
    have := List.length_filter_le (fun p : Str × Bool × Option Str => p.2.1) (leftL lg).h
    omega
  have l3 : (sortS (readsL lg)).length ≤ 100 := by
    rw [sortS_len]
    unfold readsL
    rw [List.length_map]
    have := List.length_filter_le (fun p : Str × Bool => p.2) (leftL lg).r
    omega
  have s1 := (sh_list hp fun l _ => (pl l).up (by decide)).mono (n := 600000) (by have := Nat.mul_le_mul_right 5002 l1; omega)
  have s2 := (sh_list hm fun l _ => (pm l).up (by decide)).mono (n := 600000) (by have := Nat.mul_le_mul_right 252 l2; omega)
  have s3 := (sh_list hr fun l _ => pd_str).mono (n := 600000) (by have := Nat.mul_le_mul_right 124 l3; omega)
  refine (sh_tup (n := 600000) (fun d hd => ?_) ((pd_tup (n := 40) (pd_cons ((pd_tup (n := 20) (pd_map fun l _ => pl l)).up (by decide)) (pd_cons ((pd_tup (n := 20) (pd_map fun l _ => pm l)).up (by decide)) (pd_cons ((pd_tup (n := 21) (pd_map fun l _ => pd_str)).up (by decide)) pd_nil)))).up (by decide))).mono (by show 3 * (600000 + 2) + 2 ≤ 10000000; decide)
  rcases List.mem_cons.mp hd with rfl | hd
  · exact s1
  rcases List.mem_cons.mp hd with rfl | hd
  · exact s2
  · rw [List.mem_singleton.mp hd]
    exact s3
def rel__law_right : List D → D → Prop := fun ds r => ∃ (xs : List Str) (ls : List Lr) (lg : List (Dd × Bool)), ds = [.tuple (lg.map lgP)] ∧ lg.length ≤ 100 ∧ NmsOk xs ∧ (∀ l, l ∈ ls → LrOk xs l) ∧ LgIn xs ls lg ∧ r = .bool true
abbrev as__law_right : AS := PureAS rel__law_right
local macro_rules | `(tactic| walk_at "g1") => `(tactic| ((with_reducible refine' ct_pure (rel := rel__law_right) ?h0 ?h1 ?_); (case h0 => rfl); (case h1 => exact ⟨_, _, _, rfl, by assumption, by assumption, by assumption, by assumption, rfl⟩)))
theorem ok__law_right (T : Tx K mg base) (S : Ds K mg) : FnOkG P w K mg base 6 S._law_right.f S._law_right.fd ["_law_log"] (conc K as__law_right) := by
  refine fn_absG S._law_right.F sc__law_right (by walk_at "plen") (fun cdv A outer s H E hr hga => ?_)
  refine ⟨_, (pss_cons (ps_set (i := 1) sc__law_right.nd rfl (Or.inl rfl) (pe_tup (pa_cons (pe_call (ok_pack_of (P := P) (w := w) T S) (hr.mono (by decide)) (by rfl) S.pack_of.g S.pack_of.F.kp S.pack_of.b .nil pass0 (pa_cons (pv 0) pa_nil)) (pa_cons (pe_call (ok_marks_of (P := P) (w := w) T S) (hr.mono (by decide)) (by rfl) S.marks_of.g S.marks_of.F.kp S.marks_of.b .nil pass0 (pa_cons (pv 0) pa_nil)) (pa_cons (pe_call (ok_reads_of (P := P) (w := w) T S) (hr.mono (by decide)) (by rfl) S.reads_of.g S.reads_of.F.kp S.reads_of.b .nil pass0 (pa_cons (pv 0) pa_nil)) pa_nil)))))
      (pss_one (ps_ret (pe_cmpR (ko_eq (K := K) rfl hr.units) (pe_callB (kc_repr (K := K) rfl hga hr.units) (by rfl) T.m_repr (by decide +kernel) (pa_cons (pv 1) pa_nil)) (pe_callB (kc_repr (K := K) rfl hga hr.units) (by rfl) T.m_repr (by decide +kernel) (pa_cons (pe_call (ok__law_kept_by (P := P) (w := w) T S) (hr.mono (by decide)) (by rfl) S._law_kept_by.g S._law_kept_by.F.kp S._law_kept_by.b .nil pass0 (pa_cons (pv 0) pa_nil)) pa_nil)) (nomark _))))), ?_⟩
  rintro args cs Φ ⟨_, _, rfl, rfl, ⟨xs, ls, lg, rfl, hn, hx, hls, hlg, rfl⟩, h⟩
  show wpS K _ [some (.dat (.tuple (lg.map lgP))), none] [] _
  have hsh := kept_sh hx hls hlg hn
  have hn2 : lg.length ≤ 900 := by omega
  refine ws_seq (ws_asg (we_tupX (wa_cons (cl_pure (rel := rel_pack_of) (wa_cons (we_var rfl (wa_nil (ct_pure rfl ⟨lg, rfl, hn2, rfl⟩ (wa_cons (cl_pure (rel := rel_marks_of) (wa_cons (we_var rfl (wa_nil (ct_pure rfl ⟨lg, rfl, hn2, rfl⟩ (wa_cons (cl_pure (rel := rel_reads_of) (wa_cons (we_var rfl (wa_nil (ct_pure rfl ⟨lg, rfl, hn2, rfl⟩ (wa_nil ⟨_, rfl, Nat.le_of_ble_eq_true rfl, wg_name ?_⟩)))))))))))))))))))))
  show wpS K _ [some (.dat (.tuple (lg.map lgP))), some (.dat (keptD lg))] [] _
  refine ws_ret (we_op (we_cb (wa_cons (we_var rfl (wa_nil (wc_repr .dat hsh (we_cb (wa_cons (cl_pure (rel := rel__law_kept_by) (wa_cons (we_var rfl (wa_nil (ct_pure rfl ⟨lg, rfl, hn2, rfl⟩ (wa_nil (wc_repr .dat hsh ?_)))))))))))))))
  exact wr_eqR .dat .dat pd_str (.inl ⟨_, rfl, rfl, h⟩)
def as_law : AS := fun args cs Φ => ∃ ns : List Int, args = [.dat (.list (ns.map .int))] ∧ cs = [] ∧ ns.length ≤ 63 ∧ Φ (.dat (.bool true)) []
theorem cl_start {env : G.Env} {cs : List Cell} {ta : TA} {E : XK} {Φ : Vl → List Cell → Prop} (h : wpA K ta env cs fun xs c1 => ∃ ns : List Int, xs = [.dat (.list (ns.map .int))] ∧ ∀ g m, StOk 0 g m 0 → Φ (.cel c1.length) (c1 ++ [stC g m 0])) : wpE K (tCall (conc K as__law_start) [] E ta) env cs Φ :=
  we_call0c (wpA.mono h fun xs c1 ⟨ns, e, hq⟩ => ⟨fun x c => ∃ g m, x = .cel 0 ∧ c = [stC g m 0] ∧ StOk 0 g m 0, ⟨ns, e, rfl, fun g m g1 => ⟨g, m, rfl, rfl, g1⟩⟩, by rw [e]; exact vlB_dat vlB_nil, fun x c' ⟨g, m, e1, e2, g1⟩ => ⟨_, e1, e2, cb_st, hq g m g1⟩⟩)
theorem wsm_stop {m : Nat} {env : G.Env} {cs : List Cell} {t u : TS} {a : AE} (h : G.wpS K t env cs { a with nx := fun e c => Hold (wpSm K m u e c a) }) : wpSm K m (tSeq t u) env cs a := wsm_seq h
theorem ok_law (T : Tx K mg base) (S : Ds K mg) : FnAt P w K mg base S.law.f S.law.fd ["_law_script"] (conc K as_law) := by
  refine fn_at (k := 6) S.law.F sc_law ⟨rfl, by decide, by decide⟩ (by walk_at "glen") (fun cdv A outer s H E hr hga => ?_)
  refine ⟨_, (pss_cons (ps_set (i := 1) sc_law.nd rfl (Or.inl rfl) (pe_call (ok__law_start T S) (hr.mono (by decide)) (by rfl) S._law_start.g S._law_start.F.kp S._law_start.b .nil pass0 (pa_cons (pv 0) pa_nil)))
      (pss_cons (ps_set (i := 2) sc_law.nd rfl (Or.inl rfl) (pe_call (ok__law_names T S) (hr.mono (by decide)) (by rfl) S._law_names.g S._law_names.F.kp S._law_names.b .nil pass0 (pa_cons (pv 1) (pa_cons (pe_op (ko_add (K := K) rfl) pe_int (pe_call (ok__law_take T S) (hr.mono (by decide)) (by rfl) S._law_take.g S._law_take.F.kp S._law_take.b .nil pass0 (pa_cons (pv 1) (pa_cons pe_int pa_nil)))) pa_nil))))
      (pss_cons (ps_set (i := 3) sc_law.nd rfl (Or.inl rfl) (pe_call (ok__law_letters T S) (hr.mono (by decide)) (by rfl) S._law_letters.g S._law_letters.F.kp S._law_letters.b .nil pass0 (pa_cons (pv 1) (pa_cons (pv 2) (pa_cons (pe_op (ko_add (K := K) rfl) pe_int (pe_call (ok__law_take T S) (hr.mono (by decide)) (by rfl) S._law_take.g S._law_take.F.kp S._law_take.b .nil pass0 (pa_cons (pv 1) (pa_cons pe_int pa_nil)))) pa_nil)))))
      (pss_cons (ps_set (i := 4) sc_law.nd rfl (Or.inl rfl) (pe_lst pa_nil))
      (pss_cons (ps_for PassesOwn.never rfl (pi_range1 (by rfl) T.m_range (pa_cons (pe_call (ok__law_take T S) (hr.mono (by decide)) (by rfl) S._law_take.g S._law_take.F.kp S._law_take.b .nil pass0 (pa_cons (pv 1) (pa_cons pe_int pa_nil))) pa_nil)) (pg_name (i := 5) sc_law.nd rfl (Or.inl rfl))
      (pss_cons (ps_set (i := 6) sc_law.nd rfl (Or.inl rfl) (pe_call (ok__law_deed T S) (hr.mono (by decide)) (by rfl) S._law_deed.g S._law_deed.F.kp S._law_deed.b .nil pass0 (pa_cons (pv 1) (pa_cons (pv 2) (pa_cons (pv 3) pa_nil)))))
      (pss_one (ps_expr (kp_append (K := K) rfl (pv 4) (pa_cons (pe_tup (pa_cons (pv 6) (pa_cons (pe_cmpR op_gt (pe_call (ok__law_take T S) (hr.mono (by decide)) (by rfl) S._law_take.g S._law_take.F.kp S._law_take.b .nil pass0 (pa_cons (pv 1) (pa_cons pe_int pa_nil))) pe_int (nomark _)) pa_nil))) pa_nil))))))
      (pss_cons (ps_set (i := 7) sc_law.nd rfl (Or.inl rfl) (pe_call (ok__law_take T S) (hr.mono (by decide)) (by rfl) S._law_take.g S._law_take.F.kp S._law_take.b .nil pass0 (pa_cons (pv 1) (pa_cons (pe_op (ko_add (K := K) rfl) (pe_callB (kc_len (K := K) rfl) (by rfl) T.m_len PySem.boot_len (pa_cons (pv 4) pa_nil)) pe_int) pa_nil))))
      (pss_cons (ps_set (i := 8) sc_law.nd rfl (Or.inl rfl) (pe_lst (pa_cons (pv 4) (pa_cons (pe_slice (kx_sl (K := K) rfl) (pv 4) po_none (po_some (pv 7))) (pa_cons (pe_slice (kx_sl (K := K) rfl) (pv 4) (po_some (pv 7)) po_none) (pa_cons (pe_revA (K := K) rfl (pv 4)) (pa_cons (pe_lc (own := [("_law_deed_here", 6), ("_law_stands", 9)]) (g := (gTup K 2 (gCons (gName 6) (gCons (gName 9) gNil)))) (by rfl) sc_law.nd (ki_list (K := K) rfl (pv 4)) (blkOk_by (own := [("_law_deed_here", 6), ("_law_stands", 9)]) (N := ["_law_script", "_law_state", "_law_pool_here", "_law_letters_here", "_law_log", "_law_k", "_law_deed_here", "_law_at", "_law_logs", "_law_stands", "_law_one"]) (sc := defScope s_law) (by decide +kernel)) (fun _ _ _ _ _ => (kg_tup (K := K) rfl (by rfl) (pgs_cons (pg_name (i := 6) sc_law.nd rfl (Or.inl rfl)) (pgs_cons (pg_name (i := 9) sc_law.nd rfl (Or.inl rfl)) pgs_nil)))) (fun _ _ _ _ _ => pts_nil) (fun _ _ _ _ _ => (pe_tup (pa_cons (pv 6) (pa_cons (pe_not (pv 9)) pa_nil))))) (pa_cons (pv 4) pa_nil))))))))
      (pss_one (ps_ret (pe_callB (kc_all (K := K) rfl rfl) (by rfl) T.m_all (by decide +kernel) (pa_cons (pe_lc (own := [("_law_one", 10)]) (g := (gName 10)) (by rfl) sc_law.nd (ki_list (K := K) rfl (pv 8)) (blkOk_by (own := [("_law_one", 10)]) (N := ["_law_script", "_law_state", "_law_pool_here", "_law_letters_here", "_law_log", "_law_k", "_law_deed_here", "_law_at", "_law_logs", "_law_stands", "_law_one"]) (sc := defScope s_law) (by decide +kernel)) (fun _ _ _ _ _ => (pg_name (i := 10) sc_law.nd rfl (Or.inl rfl))) (fun _ _ _ _ _ => pts_nil) (fun _ _ _ _ _ => (pe_callG (ok__law_right T S) hga (hr.mono (by decide)) (by rfl) S._law_right.g S._law_right.F.kp S._law_right.b .nil pass0 (pa_cons (pe_callTy (kc_tuple (K := K) rfl) (by rfl) T.m_tuple (by decide +kernel) (pa_cons (pv 10) pa_nil)) pa_nil)))) pa_nil))))))))))), ?_⟩
  rintro args cs Φ ⟨ns, rfl, rfl, hns, h⟩
  show wpS K _ [some (.dat (.list (ns.map .int))), none, none, none, none, none, none, none, none, none, none] [] _
  refine wsm_begin (wsm_seq (ws_asg (cl_start (wa_cons (we_var rfl (wa_nil ⟨ns, rfl, fun g m hp => wg_name ?_⟩))))))
  walk_at "gn"
  refine wsm_stop (ws_asg ?_)
  walk_at "g"
  rename_i r1 _ _ _ hr0 hr1 _ g1 m1 c1 xs hxs hxn hxl hp1
  have hx : xs.length = 2 + r1.toNat := by
    injection hxl with e _
    injection e with e
    omega
  refine hold (wsm_stop (ws_asg ?_))
  walk_at "g"
  rename_i r2 _ _ _ hr20 hr21 _ g2 m2 c2 ls hls hp2
  obtain ⟨hl1, hlo⟩ := hls xs _ rfl
  refine hold (wsm_seq (ws_asg (we_lst (wa_nil ⟨by simp, wg_name ?_⟩))))
  show wpSm K 0 _ [some (.dat (.list (ns.map .int))), some (.cel 0), some (.dat (.list (xs.map .str))), some (.dat (.list (ls.map lrD))), some (.cel 1), none, none, none, none, none, none] [stC g2 m2 c2, .lst []] _
  refine wsm_seq (ws_for (wi_range1 ?_))
  walk_at "g"
  rename_i r3 g3 m3 c3 hr30 hr31 hp3
  refine ⟨by omega, by omega, fun j e c => ∃ (o5 o6 : Option D) (lg : List (Dd × Bool)) (g m k : Int), e = [some (.dat (.list (ns.map .int))), some (.cel 0), some (.dat (.list (xs.map .str))), some (.dat (.list (ls.map lrD))), some (.cel 1), o5.map .dat, o6.map .dat, none, none, none, none] ∧ c = [stC g m k, .lst ((lg.map lgP).map .dat)] ∧ StOk (1400 + 10 * j) g m k ∧ lg.length = j ∧ LgIn xs ls lg, ⟨none, none, [], _, _, _, rfl, rfl, by walk_at "stok", rfl, fun _ h => nomatch h⟩, fun _ _ _ _ _ => trivial, ?_, ?_⟩
  · rintro j d e c hd ⟨o5, o6, lg, g, m, k, rfl, rfl, hp, hl, hlg⟩
    obtain ⟨hj, rfl⟩ := rngD_get hd
    refine wg_name (ws_stop ?_)
    walk_at "g"
    rename_i g4 m4 c4 dd hdd hp4
    have hdo := hdd xs ls rfl
    refine hold (ws_drop (wv_append (fd := lgP) (we_var rfl ⟨_, rfl, ⟨_, rfl⟩, ?_⟩)))
    walk_at "g"
    rename_i r5 g5 m5 c5 hr50 hr51 hp5
    refine ⟨lg, (dd, decide (0 < r5)), rfl, rfl, by omega, ?_⟩
    try dsimp only
    exact ⟨some _, some _, lg ++ [(dd, decide (0 < r5))], _, _, _, rfl, rfl, by walk_at "stok", by rw [List.length_append, hl]; rfl, fun p hp => (List.mem_append.mp hp).elim (hlg p) fun e => by rw [List.mem_singleton.mp e]; exact hdo⟩
  · rintro e c ⟨o5, o6, lg, g, m, k, rfl, rfl, hp, hl, hlg⟩
    rw [rngD_len] at hl hp
    have hl40 : lg.length ≤ 40 := by omega
    refine wsm_frzL 1 (i := 4) (k := 1) rfl rfl (Nat.zero_le _) (by decide) (by walk_at "ge") csb_st (wsm_end ?_)
    show wpS K _ [some (.dat (.list (ns.map .int))), some (.cel 0), some (.dat (.list (xs.map .str))), some (.dat (.list (ls.map lrD))), some (.dat (.list (lg.map lgP))), o5.map .dat, o6.map .dat, none, none, none, none] [stC g m k] _
    have hml : (lg.map lgP).length = lg.length := List.length_map ..
    refine ws_stop ?_
    walk_at "g"
    rename_i r6 g6 m6 c6 hr60 hr61 hp6
    refine hold ?_
    show wpS K _ _ [stC g6 m6 c6] _
    refine (ws_seq (ws_asg (we_lstF (wa_cons (we_var rfl (wa_cons (we_fz ?_)))))))
    walk_at "g"
    refine ⟨_, _, rfl, Nat.le_refl _, rfl, csb_st, wa_cons (we_fz ?_)⟩
    walk_at "g"
    refine ⟨_, _, rfl, Nat.le_refl _, rfl, csb_st, wa_cons (we_fz ?_)⟩
    walk_at "g"
    refine ⟨_, _, rfl, Nat.le_refl _, rfl, csb_st, wa_cons (we_fz (we_lcG (go_pair (by decide) (by decide)) lgP (fun _ => true) (fun p => lgP (p.1, !p.2)) (wi_list (we_var rfl (.inl ⟨_, rfl, by omega, trivial, lg, rfl, fun p _ => ?_, ?_⟩)))))⟩
    · unfold Each
      refine wg_tup rfl rfl (wgs_mc (wg_name (wgs_mc (wg_name (wgs_mn ⟨rfl, wt_yes ⟨rfl, ⟨[], by rw [List.append_nil]⟩, fun _ => ?_⟩⟩)))))
      walk_at "g"
      exact XE.mk0
    refine ⟨_, _, rfl, Nat.le_refl _, rfl, csb_st, wa_cons (we_var rfl (wa_nil ⟨rfl, [lg, lg.take r6.toNat, lg.drop r6.toNat, lg.reverse, lg.map fun p => (p.1, !p.2), lg].map fun l => .list (l.map lgP), ?_, by simp, wg_name ?_⟩))⟩
    · rw [List.filter_eq_self.mpr fun _ _ => rfl, List.map_cons, List.map_cons, List.map_cons, List.map_cons, List.map_reverse, List.map_cons, List.map_map]
      rfl
    show wpS K _ [some (.dat (.list (ns.map .int))), some (.cel 0), some (.dat (.list (xs.map .str))), some (.dat (.list (ls.map lrD))), some (.dat (.list (lg.map lgP))), o5.map .dat, o6.map .dat, some (.dat (.int r6)), some (.dat (.list ([lg, lg.take r6.toNat, lg.drop r6.toNat, lg.reverse, lg.map fun p => (p.1, !p.2), lg].map fun l => .list (l.map lgP)))), none, none] [stC g6 m6 c6] _
    have hall : ∀ l, l ∈ [lg, lg.take r6.toNat, lg.drop r6.toNat, lg.reverse, lg.map fun p => (p.1, !p.2), lg] → l.length ≤ 100 ∧ LgIn xs ls l := fun l hm => by
      simp only [List.mem_cons, List.not_mem_nil, or_false] at hm
      rcases hm with rfl | rfl | rfl | rfl | rfl | rfl
      · exact ⟨by omega, hlg⟩
      · exact ⟨by have := List.length_take_le' r6.toNat lg; omega, fun p hp => hlg p (List.mem_of_mem_take hp)⟩
      · exact ⟨by rw [List.length_drop]; omega, fun p hp => hlg p (List.mem_of_mem_drop hp)⟩
      · exact ⟨by rw [List.length_reverse]; omega, fun p hp => hlg p (List.mem_reverse.mp hp)⟩
      · refine ⟨by rw [List.length_map]; omega, fun p hp => ?_⟩
        obtain ⟨q, hq, rfl⟩ := List.mem_map.mp hp
        exact hlg q hq
      · exact ⟨by omega, hlg⟩
    generalize hL6 : [lg, lg.take r6.toNat, lg.drop r6.toNat, lg.reverse, lg.map fun p => (p.1, !p.2), lg] = L6 at hall ⊢
    refine ws_ret (we_allG (go_name (by decide)) (fun l : List (Dd × Bool) => .list (l.map lgP)) (fun _ => true) (fun _ => true) (wi_list (we_var rfl (.inl ⟨_, rfl, ?_, trivial, ⟨[], rfl⟩, L6, rfl, fun l hm => ?_, ?_⟩))))
    · rw [List.length_map, ← hL6]
      exact Nat.le_of_ble_eq_true rfl
    · obtain ⟨q1, q2⟩ := hall l hm
      unfold Each
      exact wg_name ⟨rfl, wt_yes ⟨rfl, ⟨[], by rw [List.append_nil]⟩, fun _ => cl_pure (rel := rel__law_right) (wa_cons (we_cb (wa_cons (we_var rfl (wa_nil (wc_tupL .dat (wa_nil (ct_pure rfl ⟨xs, ls, l, rfl, q1, hxs, hlo, q2, rfl⟩ XE.mk0))))))))⟩⟩
    · rw [show (L6.filter fun _ => true).all (fun _ => true) = true from List.all_eq_true.mpr fun _ _ => rfl]
      exact .inr ⟨CsB.nil, .inl ⟨_, rfl, h⟩⟩
end
theorem bindsP {K : PySem.W.Frag} {x q : Str} {st : Stmt} {f : Addr} {fd : FuncData} {ps : List Str} (F : FnP K x q st f fd) (h : ∀ (kV doc pm : Value) (an : Option Addr) (cdv ct : Value) (us : List Value), us.length = ps.length → bindArgs (PySem.W.fnOf x q (defArgs st) (defBody st) (defScope st) .none kV doc pm an cdv ct) ⟨us, []⟩ = pure (ps.zip us)) : Binds K fd ps [] := FunD.bindsN F h
theorem facts {P : Program} {w : World} {K : PySem.W.Frag} {h : Heap} {mg : Str → Option Value} {f : Addr} (X : K.In h) (G : h.Ns mainGlobals mg) (hfa : mg ("law" : Str) = some (.ref f)) (c : He.SaysD fa fn K) :
    ∃ fd : FuncData, (∀ (s : Shared) (v : Value), BindsTo s fd ⟨[v], []⟩ [("_law_script", v)]) ∧ tabsOf K = [] ∧ ∀ base : Heap, K.In base → base.Ns mainGlobals mg → FnAt P w K mg base f fd ["_law_script"] (conc K as_law) := by
  obtain ⟨fd0, E0⟩ := c.def_ 0 (d := df_Left_init) rfl
  have F0 : FnP K "__init__" "Left.__init__" s_Left_init (He.fAd K ("Left", some "__init__")) fd0 := E0
  obtain ⟨fd1, E1⟩ := c.def_ 1 (d := df_LetterDeed_init) rfl
  have F1 : FnP K "__init__" "LetterDeed.__init__" s_LetterDeed_init (He.fAd K ("LetterDeed", some "__init__")) fd1 := E1
  obtain ⟨fd2, E2⟩ := c.def_ 2 (d := df_LetterDeed_shelf_in) rfl
  have F2 : FnP K "shelf_in" "LetterDeed.shelf_in" s_LetterDeed_shelf_in (He.fAd K ("LetterDeed", some "shelf_in")) fd2 := E2
  obtain ⟨fd3, E3⟩ := c.def_ 3 (d := df_LetterDeed_says) rfl
  have F3 : FnP K "says" "LetterDeed.says" s_LetterDeed_says (He.fAd K ("LetterDeed", some "says")) fd3 := E3
  obtain ⟨fd4, E4⟩ := c.def_ 4 (d := df_LetterDeed_leave_in) rfl
  have F4 : FnP K "leave_in" "LetterDeed.leave_in" s_LetterDeed_leave_in (He.fAd K ("LetterDeed", some "leave_in")) fd4 := E4
  obtain ⟨fd5, E5⟩ := c.def_ 5 (d := df_HandDeed_init) rfl
  have F5 : FnP K "__init__" "LetterDeed.__init__" s_HandDeed_init (He.fAd K ("HandDeed", some "__init__")) fd5 := E5
  obtain ⟨fd6, E6⟩ := c.def_ 6 (d := df_HandDeed_shelf_in) rfl
  have F6 : FnP K "shelf_in" "HandDeed.shelf_in" s_HandDeed_shelf_in (He.fAd K ("HandDeed", some "shelf_in")) fd6 := E6
  obtain ⟨fd7, E7⟩ := c.def_ 7 (d := df_HandDeed_says) rfl
  have F7 : FnP K "says" "HandDeed.says" s_HandDeed_says (He.fAd K ("HandDeed", some "says")) fd7 := E7
  obtain ⟨fd8, E8⟩ := c.def_ 8 (d := df_HandDeed_leave_in) rfl
  have F8 : FnP K "leave_in" "LetterDeed.leave_in" s_HandDeed_leave_in (He.fAd K ("HandDeed", some "leave_in")) fd8 := E8
  obtain ⟨fd9, E9⟩ := c.def_ 9 (d := df_ReadDeed_init) rfl
  have F9 : FnP K "__init__" "LetterDeed.__init__" s_ReadDeed_init (He.fAd K ("ReadDeed", some "__init__")) fd9 := E9
  obtain ⟨fd10, E10⟩ := c.def_ 10 (d := df_ReadDeed_shelf_in) rfl
  have F10 : FnP K "shelf_in" "ReadDeed.shelf_in" s_ReadDeed_shelf_in (He.fAd K ("ReadDeed", some "shelf_in")) fd10 := E10
  obtain ⟨fd11, E11⟩ := c.def_ 11 (d := df_ReadDeed_says) rfl
  have F11 : FnP K "says" "ReadDeed.says" s_ReadDeed_says (He.fAd K ("ReadDeed", some "says")) fd11 := E11
  obtain ⟨fd12, E12⟩ := c.def_ 12 (d := df_ReadDeed_leave_in) rfl
  have F12 : FnP K "leave_in" "LetterDeed.leave_in" s_ReadDeed_leave_in (He.fAd K ("ReadDeed", some "leave_in")) fd12 := E12
  obtain ⟨fd13, E13⟩ := c.def_ 13 (d := df_made) rfl
  have F13 : FnP K "made" "made" s_made _ fd13 := E13
  obtain ⟨fd14, E14⟩ := c.def_ 14 (d := df_left_by) rfl
  have F14 : FnP K "left_by" "left_by" s_left_by _ fd14 := E14
  obtain ⟨fd15, E15⟩ := c.def_ 15 (d := df_pack_of) rfl
  have F15 : FnP K "pack_of" "pack_of" s_pack_of _ fd15 := E15
  obtain ⟨fd16, E16⟩ := c.def_ 16 (d := df_marks_of) rfl
  have F16 : FnP K "marks_of" "marks_of" s_marks_of _ fd16 := E16
  obtain ⟨fd17, E17⟩ := c.def_ 17 (d := df_reads_of) rfl
  have F17 : FnP K "reads_of" "reads_of" s_reads_of _ fd17 := E17
  obtain ⟨fd18, E18⟩ := c.def_ 18 (d := df__law_start) rfl
  have F18 : FnP K "_law_start" "_law_start" s__law_start _ fd18 := E18
  obtain ⟨fd19, E19⟩ := c.def_ 19 (d := df__law_take) rfl
  have F19 : FnP K "_law_take" "_law_take" s__law_take _ fd19 := E19
  obtain ⟨fd20, E20⟩ := c.def_ 20 (d := df__law_name) rfl
  have F20 : FnP K "_law_name" "_law_name" s__law_name _ fd20 := E20
  obtain ⟨fd21, E21⟩ := c.def_ 21 (d := df__law_pool) rfl
  have F21 : FnP K "_law_pool" "_law_pool" s__law_pool _ fd21 := E21
  obtain ⟨fd22, E22⟩ := c.def_ 22 (d := df__law_of) rfl
  have F22 : FnP K "_law_of" "_law_of" s__law_of _ fd22 := E22
  obtain ⟨fd23, E23⟩ := c.def_ 23 (d := df__law_names) rfl
  have F23 : FnP K "_law_names" "_law_names" s__law_names _ fd23 := E23
  obtain ⟨fd24, E24⟩ := c.def_ 24 (d := df__law_letters) rfl
  have F24 : FnP K "_law_letters" "_law_letters" s__law_letters _ fd24 := E24
  obtain ⟨fd25, E25⟩ := c.def_ 25 (d := df__law_deed) rfl
  have F25 : FnP K "_law_deed" "_law_deed" s__law_deed _ fd25 := E25
  obtain ⟨fd26, E26⟩ := c.def_ 26 (d := df__law_said) rfl
  have F26 : FnP K "_law_said" "_law_said" s__law_said _ fd26 := E26
  obtain ⟨fd27, E27⟩ := c.def_ 27 (d := df__law_kept_by) rfl
  have F27 : FnP K "_law_kept_by" "_law_kept_by" s__law_kept_by _ fd27 := E27
  obtain ⟨fd28, E28⟩ := c.def_ 28 (d := df__law_right) rfl
  have F28 : FnP K "_law_right" "_law_right" s__law_right _ fd28 := E28
  obtain ⟨fd29, E29⟩ := c.def_ 29 (d := df_law) rfl
  have F29 : FnP K "law" "law" s_law _ fd29 := E29
  have e := hfa.symm.trans (He.glo_ok X G (c.fact 16 (f := .glo "law") rfl))
  cases e
  let S : Ds K mg := ⟨⟨fd0, F0, bindsP F0 (fun _ _ _ _ _ _ us hl => match us, hl with | [_], _ => rfl)⟩,
    ⟨fd1, F1, bindsP F1 (fun _ _ _ _ _ _ us hl => match us, hl with | [_, _], _ => rfl)⟩,
    ⟨fd2, F2, bindsP F2 (fun _ _ _ _ _ _ us hl => match us, hl with | [_, _], _ => rfl)⟩,
    ⟨fd3, F3, bindsP F3 (fun _ _ _ _ _ _ us hl => match us, hl with | [_], _ => rfl)⟩,
    ⟨fd4, F4, bindsP F4 (fun _ _ _ _ _ _ us hl => match us, hl with | [_, _], _ => rfl)⟩,
    ⟨fd5, F5, bindsP F5 (fun _ _ _ _ _ _ us hl => match us, hl with | [_, _], _ => rfl)⟩,
    ⟨fd6, F6, bindsP F6 (fun _ _ _ _ _ _ us hl => match us, hl with | [_, _], _ => rfl)⟩,
    ⟨fd7, F7, bindsP F7 (fun _ _ _ _ _ _ us hl => match us, hl with | [_], _ => rfl)⟩,
    ⟨fd8, F8, bindsP F8 (fun _ _ _ _ _ _ us hl => match us, hl with | [_, _], _ => rfl)⟩,
    ⟨fd9, F9, bindsP F9 (fun _ _ _ _ _ _ us hl => match us, hl with | [_, _], _ => rfl)⟩,
    ⟨fd10, F10, bindsP F10 (fun _ _ _ _ _ _ us hl => match us, hl with | [_, _], _ => rfl)⟩,
    ⟨fd11, F11, bindsP F11 (fun _ _ _ _ _ _ us hl => match us, hl with | [_], _ => rfl)⟩,
    ⟨fd12, F12, bindsP F12 (fun _ _ _ _ _ _ us hl => match us, hl with | [_, _], _ => rfl)⟩,
    ⟨_, fd13, F13, bindsP F13 (fun _ _ _ _ _ _ us hl => match us, hl with | [_], _ => rfl), He.glo_ok X G (c.fact 0 (f := .glo "made") rfl)⟩,
    ⟨_, fd14, F14, bindsP F14 (fun _ _ _ _ _ _ us hl => match us, hl with | [_], _ => rfl), He.glo_ok X G (c.fact 1 (f := .glo "left_by") rfl)⟩,
    ⟨_, fd15, F15, bindsP F15 (fun _ _ _ _ _ _ us hl => match us, hl with | [_], _ => rfl), He.glo_ok X G (c.fact 2 (f := .glo "pack_of") rfl)⟩,
    ⟨_, fd16, F16, bindsP F16 (fun _ _ _ _ _ _ us hl => match us, hl with | [_], _ => rfl), He.glo_ok X G (c.fact 3 (f := .glo "marks_of") rfl)⟩,
    ⟨_, fd17, F17, bindsP F17 (fun _ _ _ _ _ _ us hl => match us, hl with | [_], _ => rfl), He.glo_ok X G (c.fact 4 (f := .glo "reads_of") rfl)⟩,
    ⟨_, fd18, F18, bindsP F18 (fun _ _ _ _ _ _ us hl => match us, hl with | [_], _ => rfl), He.glo_ok X G (c.fact 5 (f := .glo "_law_start") rfl)⟩,
    ⟨_, fd19, F19, bindsP F19 (fun _ _ _ _ _ _ us hl => match us, hl with | [_, _], _ => rfl), He.glo_ok X G (c.fact 6 (f := .glo "_law_take") rfl)⟩,
    ⟨_, fd20, F20, bindsP F20 (fun _ _ _ _ _ _ us hl => match us, hl with | [_], _ => rfl), He.glo_ok X G (c.fact 7 (f := .glo "_law_name") rfl)⟩,
    ⟨_, fd21, F21, bindsP F21 (fun _ _ _ _ _ _ us hl => match us, hl with | [_, _], _ => rfl), He.glo_ok X G (c.fact 8 (f := .glo "_law_pool") rfl)⟩,
    ⟨_, fd22, F22, bindsP F22 (fun _ _ _ _ _ _ us hl => match us, hl with | [_, _], _ => rfl), He.glo_ok X G (c.fact 9 (f := .glo "_law_of") rfl)⟩,
    ⟨_, fd23, F23, bindsP F23 (fun _ _ _ _ _ _ us hl => match us, hl with | [_, _], _ => rfl), He.glo_ok X G (c.fact 10 (f := .glo "_law_names") rfl)⟩,
    ⟨_, fd24, F24, bindsP F24 (fun _ _ _ _ _ _ us hl => match us, hl with | [_, _, _], _ => rfl), He.glo_ok X G (c.fact 11 (f := .glo "_law_letters") rfl)⟩,
    ⟨_, fd25, F25, bindsP F25 (fun _ _ _ _ _ _ us hl => match us, hl with | [_, _, _], _ => rfl), He.glo_ok X G (c.fact 12 (f := .glo "_law_deed") rfl)⟩,
    ⟨_, fd26, F26, bindsP F26 (fun _ _ _ _ _ _ us hl => match us, hl with | [_], _ => rfl), He.glo_ok X G (c.fact 13 (f := .glo "_law_said") rfl)⟩,
    ⟨_, fd27, F27, bindsP F27 (fun _ _ _ _ _ _ us hl => match us, hl with | [_], _ => rfl), He.glo_ok X G (c.fact 14 (f := .glo "_law_kept_by") rfl)⟩,
    ⟨_, fd28, F28, bindsP F28 (fun _ _ _ _ _ _ us hl => match us, hl with | [_], _ => rfl), He.glo_ok X G (c.fact 15 (f := .glo "_law_right") rfl)⟩,
    ⟨_, fd29, F29, bindsP F29 (fun _ _ _ _ _ _ us hl => match us, hl with | [_], _ => rfl), He.glo_ok X G (c.fact 16 (f := .glo "law") rfl)⟩⟩
  have b := FunD.bindsA (ps := ["_law_script"]) F29 fun _ _ _ _ _ _ us hl => match us, hl with | [_], _ => rfl
  exact ⟨fd29, fun s v => b s [v] rfl, no_tabs (c.fact 51 rfl), fun base _ _ => ok_law (T := ⟨He.cls_ok (c.fact 18 rfl), He.glo_ok X G (c.fact 17 rfl), He.noat_ok (c.fact 19 rfl), He.noat_ok (c.fact 20 rfl), He.noat_ok (c.fact 21 rfl), He.cls_ok (c.fact 23 rfl), He.glo_ok X G (c.fact 22 rfl), He.noat_ok (c.fact 24 rfl), He.meth_ok (c.fact 25 rfl), He.meth_ok (c.fact 26 rfl), He.cls_ok (c.fact 28 rfl), He.glo_ok X G (c.fact 27 rfl), He.noat_ok (c.fact 29 rfl), He.meth_ok (c.fact 30 rfl), He.meth_ok (c.fact 31 rfl), He.cls_ok (c.fact 33 rfl), He.glo_ok X G (c.fact 32 rfl), He.noat_ok (c.fact 34 rfl), He.meth_ok (c.fact 35 rfl), He.meth_ok (c.fact 36 rfl), He.mkr_ok (c.fact 37 rfl), He.mkr_ok (c.fact 38 rfl), He.mkr_ok (c.fact 39 rfl), He.mkr_ok (c.fact 40 rfl), He.meth_ok (c.fact 41 rfl), He.meth_ok (c.fact 42 rfl), He.meth_ok (c.fact 43 rfl), He.free_ok X G (c.fact 44 rfl), He.free_ok X G (c.fact 45 rfl), He.free_ok X G (c.fact 46 rfl), He.free_ok X G (c.fact 47 rfl), He.free_ok X G (c.fact 48 rfl), He.free_ok X G (c.fact 49 rfl), He.free_ok X G (c.fact 50 rfl)⟩) S⟩
end K49
open PySem PySem.W PySem.Calls PyProof.Rows
set_option maxHeartbeats 0 in
theorem PySem.Challenge.cw_answertrees_k49_what_a_log_leaves_holds : PySem.Challenge.rw_answertrees_k49_what_a_log_leaves.Holds := by
  w_on; o_law
  refine HandSHeadRun.head_any (r := OpenLaw.row PySem.Challenge.rw_answertrees_k49_what_a_log_leaves) (q := view (OpenLaw.row PySem.Challenge.rw_answertrees_k49_what_a_log_leaves).prog [22]) (H := K49.hk) (ob := K49.ob) (M := 4000) (loose := K49.loose) (d := HandSHeadRun.topDef (OpenLaw.row PySem.Challenge.rw_answertrees_k49_what_a_log_leaves).prog 22) (kwd := []) K49.ob_eq
    (by kernel_rfl) (fun s => by kernel_rfl) K49.run (by kernel_rfl) (by kernel_rfl) (by kernel_rfl) (by rfl) (by first | assumption | decide +kernel) (by decide +kernel) ⟨rfl, rfl, rfl, rfl, rfl, by decide +kernel⟩ ?hw ?hc
  case hw => w_witness2
  case hc =>
    refine G.walk_ofG (l := PySem.Challenge.rw_answertrees_k49_what_a_log_leaves) (n := 63) (x := "_law_script") rfl (by decide) (by kernel_rfl) ?F
    intro w mg fa h Y Gn hmg0
    obtain ⟨K, KX, c⟩ := Y
    have hmg : mg ("law" : PySem.Str) = some (.ref fa) := by
      have e : (HandSHeadRun.topDef (OpenLaw.row PySem.Challenge.rw_answertrees_k49_what_a_log_leaves).prog 22).name = ("law" : PySem.Str) := by kernel_rfl
      rw [← e]
      exact hmg0
    obtain ⟨fd, hb, hT, hF⟩ := K49.facts (P := (PySem.Challenge.rw_answertrees_k49_what_a_log_leaves).prog) (w := w) KX Gn hmg c
    exact ⟨K, fd, _, KX, hb, fun H a ns hl _ hS => G.law_in (fun p hp => by rw [hT] at hp; cases hp) hS fun Φ h => ⟨ns, rfl, rfl, hl, h⟩, hF⟩
