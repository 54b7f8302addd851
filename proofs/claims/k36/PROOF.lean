import PyProof.Rows.All
import Wide.All
import OpenK.AllK
import Wide.FinOn
import HandS.ForMost
import HandS.ForExc
import HandS.CallSlots
import HandS.IsInst
import HandS.Deep
import HandS.SortInts
import HandS.Style
import HandS.Wide
import HandS.TupAny
import HandS.Conv
import HandS.Iter
import HandS.More
import HandS.ExcInit
import HandS.ExcField
import HandS.ExcIs
import KE.DataMinMax
import HandS.Star
import KE.GoesEnum
import HandS.Zip
import HandS.SetFor
import HandS.Strs
import HandS.TryOnly
import HandS.HotCalls
import HandS.ExcOwn
import KE.SortData
import PyProof.Rows.RowBridgeK
import HandS.Lambda
import HandS.EndTab
import PyProof.EqKinds
import PyProof.P3In
import PyProof.FactsAll.dict_1
import PyProof.FactsAll.subtypes_4
import HandS.Dict
import PyProof.Rows.SortShellAny
import PyProof.TupleOfSeq
import KE.DatumOrd
import PySem.Challenge.RW_toppleline_k36_whole_some_stones_and_pus
set_option Elab.async false
set_option linter.all false
set_option maxRecDepth 100000
set_option maxHeartbeats 4000000
set_option exponentiation.threshold 3000
/-! # DL: the data layer over HandS. Values are PyData; the heap is out of sight. -/
namespace DL
open PySem PySem.Spec L2

def keyD : Key → PyData
  | .inl i => .int i
  | .inr x => .str x

/-! ## data in a frozen heap -/
mutual
inductive At (K : PySem.W.Frag) (F : Hp) : V → PyData → Prop
  | non : At K F .non .none
  | bl (b : Bool) : At K F (.bl b) (.bool b)
  | int (i : Int) : At K F (.int i) (.int i)
  | str (x : Str) : At K F (.str x) (.str x)
  | lst {a : Addr} {vs : List V} {ds : List PyData} : F a = some (.lst vs) → AtL K F vs ds → At K F (.ref a) (.list ds)
  | tup {a : Addr} {vs : List V} {ds : List PyData} : SqT K F a vs → AtL K F vs ds → At K F (.ref a) (.tuple ds)
  | dct {a : Addr} {kvs : List (Key × V)} {ds : List (PyData × PyData)} : Rd F a (.dK kvs) → AtKv K F kvs ds → At K F (.ref a) (.dict ds)
inductive AtL (K : PySem.W.Frag) (F : Hp) : List V → List PyData → Prop
  | nil : AtL K F [] []
  | cons {v : V} {vs : List V} {d : PyData} {ds : List PyData} : At K F v d → AtL K F vs ds → AtL K F (v :: vs) (d :: ds)
inductive AtKv (K : PySem.W.Frag) (F : Hp) : List (Key × V) → List (PyData × PyData) → Prop
  | nil : AtKv K F [] []
  | cons {k : Key} {v : V} {r : List (Key × V)} {d : PyData} {ds : List (PyData × PyData)} : At K F v d → AtKv K F r ds → AtKv K F ((k, v) :: r) ((keyD k, d) :: ds)
end

theorem rd_mono {F F' : Hp} (e : Same F F') {a : Addr} {u : HO} (h : Rd F a u) : Rd F' a u := by
  rcases h with h | ⟨o, h⟩
  · exact .inl (e _ _ h)
  · exact .inr ⟨o, e _ _ h⟩
theorem sqL_mono {K : PySem.W.Frag} {F F' : Hp} (e : Same F F') {a : Addr} {vs : List V} (h : SqL K F a vs) : SqL K F' a vs := e.seq h
theorem sqT_mono {K : PySem.W.Frag} {F F' : Hp} (e : Same F F') {a : Addr} {vs : List V} (h : SqT K F a vs) : SqT K F' a vs := by
  rcases h with (h | ⟨o, h⟩) | h
  · exact .inl (.inl (e _ _ h))
  · exact .inl (.inr ⟨o, e _ _ h⟩)
  · exact .inr h

section
variable {K : PySem.W.Frag} {F F' : Hp}
mutual
theorem At.mono (e : Same F F') : ∀ (d : PyData) (v : V), At K F v d → At K F' v d
  | .none, _, h => by cases h; exact .non
  | .bool b, _, h => by cases h; exact .bl b
  | .int i, _, h => by cases h; exact .int i
  | .str x, _, h => by cases h; exact .str x
  | .list ds, _, h => by
    cases h with
    | lst hs ha => exact .lst (e _ _ hs) (AtL.mono e ds _ ha)
  | .tuple ds, _, h => by
    cases h with
    | tup hs ha => exact .tup (sqT_mono e hs) (AtL.mono e ds _ ha)
  | .dict ds, _, h => by
    cases h with
    | dct hs ha => exact .dct (rd_mono e hs) (AtKv.mono e ds _ ha)
theorem AtL.mono (e : Same F F') : ∀ (ds : List PyData) (vs : List V), AtL K F vs ds → AtL K F' vs ds
  | [], _, h => by cases h; exact .nil
  | d :: ds, _, h => by
    cases h with
    | cons h1 h2 => exact .cons (At.mono e d _ h1) (AtL.mono e ds _ h2)
theorem AtKv.mono (e : Same F F') : ∀ (ds : List (PyData × PyData)) (kvs : List (Key × V)), AtKv K F kvs ds → AtKv K F' kvs ds
  | [], _, h => by cases h; exact .nil
  | (k, d) :: ds, _, h => by
    cases h with
    | cons h1 h2 => exact .cons (At.mono e d _ h1) (AtKv.mono e ds _ h2)
end
theorem AtL.length : ∀ {vs : List V} {ds : List PyData}, AtL K F vs ds → vs.length = ds.length
  | _, _, .nil => rfl
  | _, _, .cons _ h => by rw [List.length_cons, List.length_cons, AtL.length h]
theorem AtL.get : ∀ {vs : List V} {ds : List PyData} {i : Nat} {d : PyData}, AtL K F vs ds → ds[i]? = some d → ∃ v, vs[i]? = some v ∧ At K F v d
  | _, _, i, d, .nil, e => by simp at e
  | _, _, 0, d, .cons h _, e => by
    simp at e
    subst e
    exact ⟨_, rfl, h⟩
  | _, _, i + 1, d, .cons _ h, e => by
    obtain ⟨v, h1, h2⟩ := AtL.get (i := i) (d := d) h (by simpa using e)
    exact ⟨v, by simpa using h1, h2⟩
theorem AtL.get' : ∀ {vs : List V} {ds : List PyData} {i : Nat} {v : V}, AtL K F vs ds → vs[i]? = some v → ∃ d, ds[i]? = some d ∧ At K F v d
  | _, _, i, d, .nil, e => by simp at e
  | _, _, 0, d, .cons h _, e => by
    simp at e
    subst e
    exact ⟨_, rfl, h⟩
  | _, _, i + 1, d, .cons _ h, e => by
    obtain ⟨v, h1, h2⟩ := AtL.get' (i := i) h (by simpa using e)
    exact ⟨v, by simpa using h1, h2⟩
theorem AtL.append : ∀ {vs ws : List V} {ds es : List PyData}, AtL K F vs ds → AtL K F ws es → AtL K F (vs ++ ws) (ds ++ es)
  | _, _, _, _, .nil, h => h
  | _, _, _, _, .cons h t, h' => .cons h (AtL.append t h')
theorem AtL.take : ∀ {vs : List V} {ds : List PyData} (n : Nat), AtL K F vs ds → AtL K F (vs.take n) (ds.take n)
  | _, _, 0, _ => .nil
  | _, _, n + 1, .nil => .nil
  | _, _, n + 1, .cons h t => .cons h (AtL.take n t)
theorem AtL.drop : ∀ {vs : List V} {ds : List PyData} (n : Nat), AtL K F vs ds → AtL K F (vs.drop n) (ds.drop n)
  | _, _, 0, h => h
  | _, _, n + 1, .nil => .nil
  | _, _, n + 1, .cons h t => AtL.drop n t
theorem AtL.set {v : V} {d : PyData} (h : At K F v d) : ∀ {vs : List V} {ds : List PyData} (n : Nat), AtL K F vs ds → AtL K F (vs.set n v) (ds.set n d)
  | _, _, _, .nil => .nil
  | _, _, 0, .cons _ t => .cons h t
  | _, _, n + 1, .cons g t => .cons g (AtL.set h n t)
theorem AtL.reverse : ∀ {vs : List V} {ds : List PyData}, AtL K F vs ds → AtL K F vs.reverse ds.reverse
  | _, _, .nil => .nil
  | _, _, .cons h t => by
    rw [List.reverse_cons, List.reverse_cons]
    exact (AtL.reverse t).append (.cons h .nil)
theorem AtL.eraseIdx : ∀ {vs : List V} {ds : List PyData} (i : Nat), AtL K F vs ds → AtL K F (vs.eraseIdx i) (ds.eraseIdx i)
  | _, _, _, .nil => .nil
  | _, _, 0, .cons _ t => t
  | _, _, n + 1, .cons g t => .cons g (AtL.eraseIdx n t)
theorem AtL.rep {vs : List V} {ds : List PyData} (h : AtL K F vs ds) : ∀ k : Nat, AtL K F (List.replicate k vs).flatten (List.replicate k ds).flatten
  | 0 => .nil
  | k + 1 => by
    rw [List.replicate_succ, List.replicate_succ, List.flatten_cons, List.flatten_cons]
    exact h.append (AtL.rep h k)
theorem AtL.ints {vs : List V} : ∀ {ns : List Int}, AtL K F vs (ns.map PyData.int) → vs = ns.map V.int := by
  intro ns
  induction ns generalizing vs with
  | nil => intro h; cases h; rfl
  | cons n ns ih =>
    intro h
    cases h with
    | cons h1 h2 =>
      cases h1
      rw [ih h2]
      rfl
theorem atL_ints : ∀ (ns : List Int), AtL K F (ns.map V.int) (ns.map PyData.int)
  | [] => .nil
  | n :: ns => .cons (.int n) (atL_ints ns)
theorem AtL.bls {vs : List V} : ∀ {bs : List Bool}, AtL K F vs (bs.map PyData.bool) → vs = bs.map V.bl := by
  intro bs
  induction bs generalizing vs with
  | nil => intro h; cases h; rfl
  | cons n ns ih =>
    intro h
    cases h with
    | cons h1 h2 =>
      cases h1
      rw [ih h2]
      rfl
end

/-- an error as data: its class by the module's name, its one field -/
structure DExc where
  cls : Str
  arg : Option (Str × PyData)
/-- a locked dict: where, the object, its entries -/
structure LkP where
  a : Addr
  o : Obj
  k : List (Key × V)
/-! ## what a slot or a place behind the slots holds -/
inductive DV where
  | d (x : PyData)
  | own (xs : List PyData)
  | bor (xs : List PyData)
  | cask
  | raw (v : V)
  | scr (xs : List Int)
  | odk (ks : List (PyData × PyData))
  | bdk (ks : List (PyData × PyData))
  | olk (p : Unit → LkP) (ks : List (PyData × PyData))
  | blk (p : Unit → LkP) (ks : List (PyData × PyData))
  | ldk (p : Unit → LkP) (ks : List (PyData × PyData))
  | exc (a C : Addr) (d : Option Addr) (e : DExc)
def DV.isOwn : DV → Bool
  | .own _ => true
  | .odk _ => true
  | .olk _ _ => true
  | _ => false
def DV.isBor : DV → Bool
  | .bor _ => true
  | .bdk _ => true
  | .blk _ _ => true
  | _ => false
abbrev Env := List (Option DV)

/-- what stays fixed while a def runs -/
structure Gm where
  K : PySem.W.Frag
  F0 : Hp
  B : Hp
  C : Addr → Prop
  cv : V
  J : Nat → Hp → Prop
  n : Nat
  lim : Nat
/-- as many draws later, at most -/
@[reducible] def Gm.up (G : Gm) (u : Nat) : Gm := { G with n := G.n + u }
theorem up_up {G : Gm} {a b : Nat} : (G.up a).up b = G.up (a + b) := by
  show ({ G with n := G.n + a + b } : Gm) = { G with n := G.n + (a + b) }
  rw [Nat.add_assoc]
structure Gm.Ok (G : Gm) : Prop where
  js : ∀ n H H', G.J n H → (∀ p, G.C p → H' p = H p) → (∀ p x, H p = some (.ext x) → H' p = some (.ext x)) → G.J n H'
  jm : ∀ n k H, n ≤ k → G.J n H → G.J k H
  jn : ∀ n H, G.J n H → ∀ p, G.C p → H p ≠ none
  cb : ∀ p, G.C p → G.B p ≠ none

def VOk (G : Gm) (F H : Hp) (v : V) : DV → Prop
  | .d x => At G.K F v x
  | .own xs => ∃ l vs, v = .ref l ∧ H l = some (.lst vs) ∧ AtL G.K F vs xs ∧ F l = none ∧ G.B l = none
  | .bor xs => ∃ l vs, v = .ref l ∧ H l = some (.lst vs) ∧ AtL G.K F vs xs ∧ G.B l = none
  | .cask => v = G.cv
  | .raw u => v = u
  | .scr xs => ∃ a, v = .ref a ∧ SqL G.K F a (xs.map V.int)
  | .odk ks => ∃ l kvs, v = .ref l ∧ H l = some (.dK kvs) ∧ AtKv G.K F kvs ks ∧ F l = none ∧ G.B l = none
  | .bdk ks => ∃ l kvs, v = .ref l ∧ Rd H l (.dK kvs) ∧ AtKv G.K F kvs ks ∧ G.B l = none
  | .olk p ks => ∃ q : LkP, q = p () ∧ v = .ref (p ()).a ∧ H (p ()).a = some (.frz (p ()).o (.dK (p ()).k)) ∧ AtKv G.K F (p ()).k ks ∧ F (p ()).a = none ∧ G.B (p ()).a = none
  | .blk p ks => ∃ q : LkP, q = p () ∧ v = .ref (p ()).a ∧ H (p ()).a = some (.frz (p ()).o (.dK (p ()).k)) ∧ AtKv G.K F (p ()).k ks ∧ G.B (p ()).a = none
  | .ldk p ks => ∃ q : LkP, q = p () ∧ v = .ref (p ()).a ∧ F (p ()).a = some (.frz (p ()).o (.dK (p ()).k)) ∧ AtKv G.K F (p ()).k ks
  | .exc a _ d e => v = .ref a ∧ match e.arg with
    | none => d = none
    | some (f, x) => ∃ dd w, d = some dd ∧ F dd = some (.xd [(f, w)]) ∧ At G.K F w x

structure Good (G : Gm) (F : Hp) (δ : Env) (σ : L2.St) (H : Hp) : Prop where
  g : G.Ok
  len : δ.length = σ.length
  f0 : Same G.F0 F
  fh : Same F H
  fr : ∀ p, F p ≠ none → G.F0 p = none → G.B p = none
  bh : ∀ p o, ¬ G.C p → G.B p = some o → H p = some o
  cf : ∀ p, G.C p → F p = none
  jh : G.J G.n H
  sl : ∀ (i : Nat) (dv : DV), δ[i]? = some (some dv) → ∃ v, σ[i]? = some (some v) ∧ VOk G F H v dv
  di : ∀ (i j : Nat) (x y : DV) (l : Addr), x.isOwn = true → y.isOwn = true → δ[i]? = some (some x) → δ[j]? = some (some y) → σ[i]? = some (some (.ref l)) → σ[j]? = some (some (.ref l)) → i = j

section
variable {G : Gm} {F F' H H' : Hp} {δ δ' : Env} {σ σ' : L2.St} {v : V} {dv : DV}

theorem VOk.keep (h : VOk G F H v dv) (hf : Same F F') (hh : ∀ l (o : HO), (dv.isOwn || dv.isBor) = true → v = .ref l → H l = some o → H' l = some o) (hn : ∀ l, dv.isOwn = true → v = .ref l → F l = none → F' l = none) : VOk G F' H' v dv := by
  cases dv with
  | d x => exact At.mono hf _ _ h
  | own xs =>
    obtain ⟨l, vs, rfl, h1, h2, h3, h4⟩ := h
    exact ⟨l, vs, rfl, hh l _ rfl rfl h1, AtL.mono hf _ _ h2, hn l rfl rfl h3, h4⟩
  | bor xs =>
    obtain ⟨l, vs, rfl, h1, h2, h3⟩ := h
    exact ⟨l, vs, rfl, hh l _ rfl rfl h1, AtL.mono hf _ _ h2, h3⟩
  | odk xs =>
    obtain ⟨l, vs, rfl, h1, h2, h3, h4⟩ := h
    exact ⟨l, vs, rfl, hh l _ rfl rfl h1, AtKv.mono hf _ _ h2, hn l rfl rfl h3, h4⟩
  | bdk xs =>
    obtain ⟨l, vs, rfl, h1, h2, h3⟩ := h
    refine ⟨l, vs, rfl, ?_, AtKv.mono hf _ _ h2, h3⟩
    rcases h1 with h1 | ⟨o, h1⟩
    · exact .inl (hh l _ rfl rfl h1)
    · exact .inr ⟨o, hh l _ rfl rfl h1⟩
  | olk p xs =>
    obtain ⟨_, _, rfl, h1, h2, h3, h4⟩ := h
    exact ⟨_, rfl, rfl, hh _ _ rfl rfl h1, AtKv.mono hf _ _ h2, hn _ rfl rfl h3, h4⟩
  | blk p xs =>
    obtain ⟨_, _, rfl, h1, h2, h3⟩ := h
    exact ⟨_, rfl, rfl, hh _ _ rfl rfl h1, AtKv.mono hf _ _ h2, h3⟩
  | ldk p xs =>
    obtain ⟨_, _, rfl, h1, h2⟩ := h
    exact ⟨_, rfl, rfl, hf _ _ h1, AtKv.mono hf _ _ h2⟩
  | cask => exact h
  | raw u => exact h
  | scr xs =>
    obtain ⟨a, h1, h2⟩ := h
    exact ⟨a, h1, sqL_mono hf h2⟩
  | exc a C d er =>
    obtain ⟨cn, arg⟩ := er
    cases arg with
    | none => exact h
    | some p =>
      obtain ⟨f, x⟩ := p
      obtain ⟨e, dd, w, h1, h2, h3⟩ := h
      exact ⟨e, dd, w, h1, hf _ _ h2, At.mono hf _ _ h3⟩
theorem own_at (h : VOk G F H v dv) (ho : dv.isOwn = true) : ∃ l o, v = .ref l ∧ H l = some o ∧ F l = none ∧ G.B l = none := by
  cases dv with
  | own xs =>
    obtain ⟨l, vs, h0, h1, h2, h3, h4⟩ := h
    exact ⟨l, _, h0, h1, h3, h4⟩
  | odk xs =>
    obtain ⟨l, vs, h0, h1, h2, h3, h4⟩ := h
    exact ⟨l, _, h0, h1, h3, h4⟩
  | olk p xs =>
    obtain ⟨_, _, h0, h1, h2, h3, h4⟩ := h
    exact ⟨_, _, h0, h1, h3, h4⟩
  | _ => cases ho
theorem own_ne {l : Addr} (h : VOk G F H (.ref l) dv) (ho : dv.isOwn = true) (φ : Heap → Prop) : H l ≠ some (.ext φ) := fun z => by
  cases dv with
  | own xs =>
    obtain ⟨l', vs, h0, h1, _⟩ := h
    cases h0
    rw [h1] at z
    cases z
  | odk xs =>
    obtain ⟨l', vs, h0, h1, _⟩ := h
    cases h0
    rw [h1] at z
    cases z
  | olk p xs =>
    obtain ⟨_, _, h0, h1, _⟩ := h
    cases h0
    rw [h1] at z
    cases z
  | _ => cases ho
theorem bor_at (h : VOk G F H v dv) (ho : (dv.isOwn || dv.isBor) = true) : ∃ l o, v = .ref l ∧ H l = some o ∧ G.B l = none := by
  cases dv with
  | own xs =>
    obtain ⟨l, vs, h0, h1, h2, h3, h4⟩ := h
    exact ⟨l, _, h0, h1, h4⟩
  | odk xs =>
    obtain ⟨l, vs, h0, h1, h2, h3, h4⟩ := h
    exact ⟨l, _, h0, h1, h4⟩
  | bor xs =>
    obtain ⟨l, vs, h0, h1, h2, h4⟩ := h
    exact ⟨l, _, h0, h1, h4⟩
  | bdk xs =>
    obtain ⟨l, vs, h0, h1, h2, h4⟩ := h
    rcases h1 with h1 | ⟨o, h1⟩
    · exact ⟨l, _, h0, h1, h4⟩
    · exact ⟨l, _, h0, h1, h4⟩
  | olk p xs =>
    obtain ⟨_, _, h0, h1, h2, h3, h4⟩ := h
    exact ⟨_, _, h0, h1, h4⟩
  | blk p xs =>
    obtain ⟨_, _, h0, h1, h2, h4⟩ := h
    exact ⟨_, _, h0, h1, h4⟩
  | _ => cases ho

theorem Good.get (g : Good G F δ σ H) {i : Nat} (e : δ[i]? = some (some dv)) : ∃ v, σ[i]? = some (some v) ∧ VOk G F H v dv := g.sl i dv e
theorem Good.top (g : Good G F (δ ++ [some dv]) (σ ++ [some v]) H) : VOk G F H v dv := by
  have hl : δ.length = σ.length := by
    have := g.len
    simpa using this
  obtain ⟨w, e, h⟩ := g.sl δ.length dv (by simp)
  rw [hl] at e
  simp at e
  subst e
  exact h
theorem Good.pop {x : Option DV} {y : Option V} (g : Good G F (δ ++ [x]) (σ ++ [y]) H) : Good G F δ σ H := by
  have hl : δ.length = σ.length := by
    have := g.len
    simpa using this
  have inD : ∀ {i : Nat} {z : DV}, δ[i]? = some (some z) → i < δ.length := fun {i z} e => (List.getElem?_eq_some_iff.mp e).1
  refine ⟨g.g, hl, g.f0, g.fh, g.fr, g.bh, g.cf, g.jh, fun i z e => ?_, fun i j a b l ha hb e1 e2 e3 e4 => ?_⟩
  · obtain ⟨w, e', h⟩ := g.sl i z (by rw [List.getElem?_append_left (inD e)]; exact e)
    rw [List.getElem?_append_left (by rw [← hl]; exact inD e)] at e'
    exact ⟨w, e', h⟩
  · exact g.di i j a b l ha hb (by rw [List.getElem?_append_left (inD e1)]; exact e1) (by rw [List.getElem?_append_left (inD e2)]; exact e2)
      (by rw [List.getElem?_append_left (by rw [← hl]; exact inD e1)]; exact e3) (by rw [List.getElem?_append_left (by rw [← hl]; exact inD e2)]; exact e4)
/-- pushing a value; an owned one must be apart from the others -/
theorem Good.push (g : Good G F δ σ H) (h : VOk G F H v dv) (hd : dv.isOwn = true → ∀ (i : Nat) (x : DV), x.isOwn = true → δ[i]? = some (some x) → σ[i]? ≠ some (some v)) : Good G F (δ ++ [some dv]) (σ ++ [some v]) H := by
  have hl := g.len
  have cut : ∀ {α : Type} {l : List α} {a : α} {i : Nat} {z : α}, (l ++ [a])[i]? = some z → (i < l.length ∧ l[i]? = some z) ∨ (i = l.length ∧ a = z) := fun {α l a i z} e => by
    rcases Nat.lt_trichotomy i l.length with q | q | q
    · rw [List.getElem?_append_left q] at e
      exact .inl ⟨q, e⟩
    · subst q
      simp at e
      exact .inr ⟨rfl, e⟩
    · have : (l ++ [a])[i]? = none := List.getElem?_eq_none_iff.mpr (by simp; omega)
      rw [this] at e
      cases e
  refine ⟨g.g, by simp [hl], g.f0, g.fh, g.fr, g.bh, g.cf, g.jh, fun i z e => ?_, fun i j a b l ha hb e1 e2 e3 e4 => ?_⟩
  · rcases cut e with ⟨q, e⟩ | ⟨q, e⟩
    · obtain ⟨w, e', hw⟩ := g.sl i z e
      exact ⟨w, by rw [List.getElem?_append_left (by omega)]; exact e', hw⟩
    · cases e
      exact ⟨v, by rw [q, hl]; simp, h⟩
  · rcases cut e1 with ⟨q1, e1⟩ | ⟨q1, e1⟩
    · rw [List.getElem?_append_left (by omega)] at e3
      rcases cut e2 with ⟨q2, e2⟩ | ⟨q2, e2⟩
      · rw [List.getElem?_append_left (by omega)] at e4
        exact g.di i j a b l ha hb e1 e2 e3 e4
      · cases e2
        rw [q2, hl] at e4
        simp at e4
        subst e4
        exact absurd e3 (hd hb i a ha e1)
    · cases e1
      rw [q1, hl] at e3
      simp at e3
      subst e3
      rcases cut e2 with ⟨q2, e2⟩ | ⟨q2, e2⟩
      · rw [List.getElem?_append_left (by omega)] at e4
        exact absurd e4 (hd ha j b hb e2)
      · omega
theorem Good.pushD (g : Good G F δ σ H) {x : PyData} (h : At G.K F v x) : Good G F (δ ++ [some (.d x)]) (σ ++ [some v]) H := g.push h (fun z => by cases z)
theorem Good.pushB (g : Good G F δ σ H) {xs : List PyData} (h : VOk G F H v (.bor xs)) : Good G F (δ ++ [some (.bor xs)]) (σ ++ [some v]) H := g.push h (fun z => by cases z)

/-- a new frozen object -/
theorem Good.grow (g : Good G F δ σ H) {p : Addr} {o : HO} (hp : H p = none) : Good G (upd F p o) δ σ (upd H p o) := by
  have fp : F p = none := by
    cases q : F p with
    | none => rfl
    | some u => rw [g.fh _ _ q] at hp; cases hp
  have cp : ¬ G.C p := fun c => g.g.jn _ H g.jh p c hp
  have bp : G.B p = none := by
    cases q : G.B p with
    | none => rfl
    | some u => rw [g.bh _ _ cp q] at hp; cases hp
  have hF : Same F (upd F p o) := fun b u e => by rw [upd_ne (ne_of_none e fp)]; exact e
  refine ⟨g.g, g.len, g.f0.trans hF, fun b u e => ?_, fun b e1 e2 => ?_, fun b u c e => ?_, fun b c => ?_, g.g.js _ _ _ g.jh (fun b c => ?_) (fun b x e => by rw [upd_ne (ne_of_none e hp)]; exact e), fun i z e => ?_, g.di⟩
  · by_cases q : b = p
    · subst q
      rw [upd_same] at e ⊢
      exact e
    · rw [upd_ne q] at e ⊢
      exact g.fh _ _ e
  · by_cases q : b = p
    · subst q
      exact bp
    · rw [upd_ne q] at e1
      exact g.fr b e1 e2
  · rw [upd_ne (ne_of_none (g.bh _ _ c e) hp)]
    exact g.bh _ _ c e
  · have q : b ≠ p := fun z => cp (z ▸ c)
    rw [upd_ne q]
    exact g.cf b c
  · exact upd_ne (fun z => cp (z ▸ c))
  · obtain ⟨w, e', h⟩ := g.sl i z e
    refine ⟨w, e', h.keep hF (fun l vs _ _ hl => by rw [upd_ne (ne_of_none hl hp)]; exact hl) fun l ho hv hl => ?_⟩
    obtain ⟨l', o', q1, q2, _⟩ := own_at h ho
    rw [hv] at q1
    cases q1
    rw [upd_ne (ne_of_none q2 hp)]
    exact hl
theorem Good.newT (g : Good G F δ σ H) {p : Addr} {vs : List V} {ds : List PyData} (hp : H p = none) (h : AtL G.K F vs ds) : Good G (upd F p (.tup vs)) (δ ++ [some (.d (.tuple ds))]) (σ ++ [some (.ref p)]) (upd H p (.tup vs)) := by
  have fp : F p = none := by
    cases q : F p with
    | none => rfl
    | some u => rw [g.fh _ _ q] at hp; cases hp
  have hF : Same F (upd F p (.tup vs)) := fun b u e => by rw [upd_ne (ne_of_none e fp)]; exact e
  exact (g.grow (o := .tup vs) hp).pushD (.tup (SqT.of upd_same) (AtL.mono hF _ _ h))
/-- a new thing of one's own -/
theorem Good.newG (g : Good G F δ σ H) {p : Addr} {o : HO} {y : DV} (hp : H p = none) (h : ∀ H' : Hp, H' p = some o → F p = none → G.B p = none → VOk G F H' (.ref p) y) : Good G F (δ ++ [some y]) (σ ++ [some (.ref p)]) (upd H p o) := by
  have fp : F p = none := by
    cases q : F p with
    | none => rfl
    | some u => rw [g.fh _ _ q] at hp; cases hp
  have cp : ¬ G.C p := fun c => g.g.jn _ H g.jh p c hp
  have bp : G.B p = none := by
    cases q : G.B p with
    | none => rfl
    | some u => rw [g.bh _ _ cp q] at hp; cases hp
  have g1 : Good G F δ σ (upd H p o) := by
    refine ⟨g.g, g.len, g.f0, fun b u e => ?_, g.fr, fun b u c e => ?_, g.cf, g.g.js _ _ _ g.jh (fun b c => upd_ne (fun z => cp (z ▸ c))) (fun b x e => by rw [upd_ne (ne_of_none e hp)]; exact e), fun i z e => ?_, g.di⟩
    · rw [upd_ne (ne_of_none (g.fh _ _ e) hp)]
      exact g.fh _ _ e
    · rw [upd_ne (ne_of_none (g.bh _ _ c e) hp)]
      exact g.bh _ _ c e
    · obtain ⟨w, e', h'⟩ := g.sl i z e
      exact ⟨w, e', h'.keep (fun _ _ q => q) (fun l vs _ _ hl => by rw [upd_ne (ne_of_none hl hp)]; exact hl) fun l _ _ hl => hl⟩
  refine g1.push (h _ upd_same fp bp) fun _ i x hx e q => ?_
  obtain ⟨w, e', h'⟩ := g.sl i x e
  rw [q] at e'
  cases e'
  obtain ⟨l, o', q1, q2, _⟩ := own_at h' hx
  cases q1
  rw [hp] at q2
  cases q2
/-- a new list of one's own -/
theorem Good.newO (g : Good G F δ σ H) {p : Addr} {vs : List V} {ds : List PyData} (hp : H p = none) (h : AtL G.K F vs ds) : Good G F (δ ++ [some (.own ds)]) (σ ++ [some (.ref p)]) (upd H p (.lst vs)) :=
  g.newG hp fun H' e f b => ⟨p, vs, rfl, e, h, f, b⟩
/-- a new dict of one's own -/
theorem Good.newK (g : Good G F δ σ H) {p : Addr} {kvs : List (Key × V)} {ks : List (PyData × PyData)} (hp : H p = none) (h : AtKv G.K F kvs ks) : Good G F (δ ++ [some (.odk ks)]) (σ ++ [some (.ref p)]) (upd H p (.dK kvs)) :=
  g.newG hp fun H' e f b => ⟨p, kvs, rfl, e, h, f, b⟩

theorem get_set {α : Type} {l : List α} {i j : Nat} {a z : α} (e : (l.set i a)[j]? = some z) : (j = i ∧ a = z ∧ i < l.length) ∨ (j ≠ i ∧ l[j]? = some z) := by
  by_cases q : j = i
  · subst q
    have hj : j < l.length := by
      have := (List.getElem?_eq_some_iff.mp e).1
      simpa using this
    rw [List.getElem?_set_self hj] at e
    cases e
    exact .inl ⟨rfl, rfl, hj⟩
  · rw [List.getElem?_set_ne (fun z => q z.symm)] at e
    exact .inr ⟨q, e⟩
/-- the top goes into a slot -/
theorem Good.setTop (g : Good G F (δ ++ [some dv]) (σ ++ [some v]) H) {i : Nat} (hi : i < δ.length) : Good G F (δ.set i (some dv)) (σ.set i (some v)) H := by
  have hl : δ.length = σ.length := by
    have := g.len
    simpa using this
  have q := g.pop
  have low : ∀ {j : Nat} {z : DV}, δ[j]? = some (some z) → (δ ++ [some dv])[j]? = some (some z) := fun {j z} e => by
    rw [List.getElem?_append_left (List.getElem?_eq_some_iff.mp e).1]; exact e
  have lowS : ∀ {j : Nat} {z : V}, σ[j]? = some (some z) → (σ ++ [some v])[j]? = some (some z) := fun {j z} e => by
    rw [List.getElem?_append_left (List.getElem?_eq_some_iff.mp e).1]; exact e
  have topD : (δ ++ [some dv])[δ.length]? = some (some dv) := by simp
  have topS : (σ ++ [some v])[δ.length]? = some (some v) := by rw [hl]; simp
  refine ⟨g.g, by simp [hl], g.f0, g.fh, g.fr, g.bh, g.cf, g.jh, fun j z e => ?_, fun j k a b l ha hb e1 e2 e3 e4 => ?_⟩
  · rcases get_set e with ⟨rfl, e', hj⟩ | ⟨hj, e'⟩
    · cases e'
      exact ⟨v, List.getElem?_set_self (by omega), g.top⟩
    · obtain ⟨w, h1, h2⟩ := q.sl j z e'
      exact ⟨w, by rw [List.getElem?_set_ne (fun z => hj z.symm)]; exact h1, h2⟩
  · rcases get_set e1 with ⟨rfl, f1, _⟩ | ⟨h1, f1⟩
    · cases f1
      rcases get_set e2 with ⟨rfl, f2, _⟩ | ⟨h2, f2⟩
      · rfl
      · rw [List.getElem?_set_self (by omega)] at e3
        cases e3
        rw [List.getElem?_set_ne (fun z => h2 z.symm)] at e4
        have r := g.di _ _ _ _ l ha hb topD (low f2) topS (lowS e4)
        have := (List.getElem?_eq_some_iff.mp f2).1
        omega
    · rw [List.getElem?_set_ne (fun z => h1 z.symm)] at e3
      rcases get_set e2 with ⟨rfl, f2, _⟩ | ⟨h2, f2⟩
      · cases f2
        rw [List.getElem?_set_self (by omega)] at e4
        cases e4
        have r := g.di _ _ _ _ l ha hb (low f1) topD (lowS e3) topS
        have := (List.getElem?_eq_some_iff.mp f1).1
        omega
      · rw [List.getElem?_set_ne (fun z => h2 z.symm)] at e4
        exact q.di _ _ _ _ l ha hb f1 f2 e3 e4
theorem own_nc (g : Good G F δ σ H) {l : Addr} (h : G.B l = none) : ¬ G.C l := fun c => g.g.cb l c h
/-- a thing of one's own becomes fixed -/
theorem Good.freezeG (g : Good G F δ σ H) {n : Nat} {x : DV} {y : PyData} (ho : x.isOwn = true) (e : δ[n]? = some (some x)) (hx : ∀ v F' l o, VOk G F H v x → v = .ref l → H l = some o → Same F F' → F' l = some o → At G.K F' v y) : ∃ F', Same F F' ∧ Good G F' (δ.set n (some (.d y))) σ H := by
  obtain ⟨v, ev, hv⟩ := g.sl n _ e
  obtain ⟨l, o, rfl, h1, h3, h4⟩ := own_at hv ho
  have hn : n < δ.length := (List.getElem?_eq_some_iff.mp e).1
  have hF : Same F (upd F l o) := fun b u q => by rw [upd_ne (ne_of_none q h3)]; exact q
  have cl := own_nc g h4
  refine ⟨upd F l o, hF, g.g, by simpa using g.len, g.f0.trans hF, fun b u q => ?_, fun b q1 q2 => ?_, g.bh, fun b c => ?_, g.jh, fun i z q => ?_, fun i j a b p ha hb e1 e2 e3 e4 => ?_⟩
  · by_cases hb : b = l
    · subst hb
      rw [upd_same] at q
      cases q
      exact h1
    · rw [upd_ne hb] at q
      exact g.fh _ _ q
  · by_cases hb : b = l
    · subst hb
      exact h4
    · rw [upd_ne hb] at q1
      exact g.fr b q1 q2
  · rw [upd_ne (fun z : b = l => cl (z ▸ c))]
    exact g.cf b c
  · rcases get_set q with ⟨rfl, q', _⟩ | ⟨hi, q'⟩
    · cases q'
      exact ⟨_, ev, hx _ _ l o hv rfl h1 hF upd_same⟩
    · obtain ⟨w, ew, hw⟩ := g.sl i z q'
      refine ⟨w, ew, hw.keep hF (fun _ _ _ _ q => q) fun p hz hq hp => ?_⟩
      by_cases hpl : p = l
      · subst hpl
        subst hq
        exact absurd (g.di i n z _ p hz ho q' e ew ev) hi
      · rw [upd_ne hpl]
        exact hp
  · have back : ∀ {i : Nat} {z : DV}, z.isOwn = true → (δ.set n (some (.d y)))[i]? = some (some z) → δ[i]? = some (some z) := fun {i z} ho q => by
      rcases get_set q with ⟨rfl, q', _⟩ | ⟨_, q'⟩
      · cases q'
        cases ho
      · exact q'
    exact g.di i j a b p ha hb (back ha e1) (back hb e2) e3 e4
theorem Good.freeze (g : Good G F δ σ H) {n : Nat} {xs : List PyData} (e : δ[n]? = some (some (.own xs))) : ∃ F', Same F F' ∧ Good G F' (δ.set n (some (.d (.list xs)))) σ H :=
  g.freezeG rfl e fun v F' l o h ev eo hs hl => by
    obtain ⟨l', vs, e1, e2, e3, _⟩ := h
    subst e1
    cases ev
    rw [eo] at e2
    cases e2
    exact .lst hl (AtL.mono hs _ _ e3)
theorem Good.freezeK (g : Good G F δ σ H) {n : Nat} {xs : List (PyData × PyData)} (e : δ[n]? = some (some (.odk xs))) : ∃ F', Same F F' ∧ Good G F' (δ.set n (some (.d (.dict xs)))) σ H :=
  g.freezeG rfl e fun v F' l o h ev eo hs hl => by
    obtain ⟨l', vs, e1, e2, e3, _⟩ := h
    subst e1
    cases ev
    rw [eo] at e2
    cases e2
    exact .dct (.inl hl) (AtKv.mono hs _ _ e3)
theorem Good.freezeL (g : Good G F δ σ H) {n : Nat} {p : Unit → LkP} {xs : List (PyData × PyData)} (e : δ[n]? = some (some (.olk p xs))) : ∃ F', Same F F' ∧ Good G F' (δ.set n (some (.d (.dict xs)))) σ H :=
  g.freezeG rfl e fun v F' l o h ev eo hs hl => by
    obtain ⟨_, _, e1, e2, e3, _⟩ := h
    subst e1
    cases ev
    rw [eo] at e2
    cases e2
    exact .dct (.inr ⟨_, hl⟩) (AtKv.mono hs _ _ e3)
def NoBor (δ : Env) : Prop := ∀ (i : Nat) (x : DV), δ[i]? = some (some x) → x.isBor = false
/-- a thing of one's own is changed -/
theorem Good.writeG (g : Good G F δ σ H) {n : Nat} {x y : DV} {l : Addr} {o : HO} (hx : x.isOwn = true) (hy : y.isOwn = true) (nb : ∀ (j : Nat) (x : DV), δ[j]? = some (some x) → x.isBor = true → σ[j]? ≠ some (some (.ref l))) (e : δ[n]? = some (some x)) (el : σ[n]? = some (some (.ref l)))
    (h : ∀ H' : Hp, H' l = some o → F l = none → G.B l = none → VOk G F H' (.ref l) y) : Good G F (δ.set n (some y)) σ (upd H l o) := by
  obtain ⟨v, ev, hv⟩ := g.sl n _ e
  obtain ⟨l', o', rfl, h1, h3, h4⟩ := own_at hv hx
  rw [ev] at el
  cases el
  have hn : n < δ.length := (List.getElem?_eq_some_iff.mp e).1
  have cl := own_nc g h4
  refine ⟨g.g, by simpa using g.len, g.f0, fun b u q => ?_, g.fr, fun b u c q => ?_, g.cf, g.g.js _ _ _ g.jh (fun b c => upd_ne (fun z => cl (z ▸ c))) (fun b φ e => (upd_ne (fun z => own_ne hv hx φ (by rw [← z]; exact e))).trans e), fun i z q => ?_, fun i j a b p ha hb e1 e2 e3 e4 => ?_⟩
  · rw [upd_ne (ne_of_none q h3)]
    exact g.fh _ _ q
  · rw [upd_ne (ne_of_none q h4)]
    exact g.bh _ _ c q
  · rcases get_set q with ⟨rfl, q', _⟩ | ⟨hi, q'⟩
    · cases q'
      exact ⟨_, ev, h _ upd_same h3 h4⟩
    · obtain ⟨w, ew, hw⟩ := g.sl i z q'
      refine ⟨w, ew, hw.keep (Same.refl F) (fun p vs ho hq hp => ?_) fun _ _ _ q => q⟩
      by_cases hpl : p = l
      · subst hpl
        subst hq
        cases hz : z.isOwn with
        | true => exact absurd (g.di i n z _ p hz hx q' e ew ev) hi
        | false =>
          rw [hz, Bool.false_or] at ho
          exact absurd ew (nb i z q' ho)
      · rw [upd_ne hpl]
        exact hp
  · have back : ∀ {i : Nat} {z : DV}, z.isOwn = true → (δ.set n (some y))[i]? = some (some z) → ∃ z', z'.isOwn = true ∧ δ[i]? = some (some z') := fun {i z} ho q => by
      rcases get_set q with ⟨rfl, q', _⟩ | ⟨_, q'⟩
      · exact ⟨_, hx, e⟩
      · exact ⟨z, ho, q'⟩
    obtain ⟨a', ha', f1⟩ := back ha e1
    obtain ⟨b', hb', f2⟩ := back hb e2
    exact g.di i j a' b' p ha' hb' f1 f2 e3 e4
theorem Good.write' (g : Good G F δ σ H) {n : Nat} {xs ys : List PyData} {l : Addr} {ws : List V} (nb : ∀ (j : Nat) (x : DV), δ[j]? = some (some x) → x.isBor = true → σ[j]? ≠ some (some (.ref l))) (e : δ[n]? = some (some (.own xs))) (el : σ[n]? = some (some (.ref l))) (h : AtL G.K F ws ys) :
    Good G F (δ.set n (some (.own ys))) σ (upd H l (.lst ws)) := g.writeG rfl rfl nb e el fun H' q f b => ⟨l, ws, rfl, q, h, f, b⟩
theorem Good.write (g : Good G F δ σ H) (nb : NoBor δ) {n : Nat} {xs ys : List PyData} {l : Addr} {ws : List V} (e : δ[n]? = some (some (.own xs))) (el : σ[n]? = some (some (.ref l))) (h : AtL G.K F ws ys) :
    Good G F (δ.set n (some (.own ys))) σ (upd H l (.lst ws)) := g.write' (fun j x q b => by rw [nb j x q] at b; cases b) e el h
theorem Good.writeK' (g : Good G F δ σ H) {n : Nat} {xs ys : List (PyData × PyData)} {l : Addr} {kvs : List (Key × V)} (nb : ∀ (j : Nat) (x : DV), δ[j]? = some (some x) → x.isBor = true → σ[j]? ≠ some (some (.ref l))) (e : δ[n]? = some (some (.odk xs))) (el : σ[n]? = some (some (.ref l))) (h : AtKv G.K F kvs ys) :
    Good G F (δ.set n (some (.odk ys))) σ (upd H l (.dK kvs)) := g.writeG rfl rfl nb e el fun H' q f b => ⟨l, kvs, rfl, q, h, f, b⟩
theorem Good.writeK (g : Good G F δ σ H) (nb : NoBor δ) {n : Nat} {xs ys : List (PyData × PyData)} {l : Addr} {kvs : List (Key × V)} (e : δ[n]? = some (some (.odk xs))) (el : σ[n]? = some (some (.ref l))) (h : AtKv G.K F kvs ys) :
    Good G F (δ.set n (some (.odk ys))) σ (upd H l (.dK kvs)) := g.writeK' (fun j x q b => by rw [nb j x q] at b; cases b) e el h
/-! ### calls -/
def DV.arg : DV → Bool
  | .d _ => true
  | .cask => true
  | .raw _ => true
  | .scr _ => true
  | _ => false
/-- the fixed part for a callee -/
def Gm.into (G : Gm) (F H : Hp) : Gm := { G with F0 := F, B := H }
theorem Good.into (g : Good G F δ σ H) {as : List DV} {vs : List V} (ha : ∀ x ∈ as, x.arg = true) (hl : as.length = vs.length) (h : ∀ (i : Nat) (x : DV), as[i]? = some x → ∃ v, vs[i]? = some v ∧ VOk G F H v x) :
    Good (G.into F H) F (as.map some) (vs.map some) H := by
  refine ⟨⟨g.g.js, g.g.jm, g.g.jn, fun p c => g.g.jn _ H g.jh p c⟩, by simpa using hl, Same.refl F, g.fh, fun p q1 q2 => absurd q2 q1, fun p o _ q => q, g.cf, g.jh, fun i x e => ?_, fun i j a b l hx _ e1 _ _ _ => ?_⟩
  · rw [List.getElem?_map] at e
    cases q : as[i]? with
    | none => rw [q] at e; cases e
    | some y =>
      rw [q] at e
      cases e
      obtain ⟨v, e1, e2⟩ := h i x q
      have hm := ha x (List.mem_of_getElem? q)
      refine ⟨v, by rw [List.getElem?_map, e1]; rfl, ?_⟩
      cases x with
      | d _ => exact e2
      | cask => exact e2
      | raw _ => exact e2
      | scr _ => exact e2
      | _ => cases hm
  · rw [List.getElem?_map] at e1
    cases q : as[i]? with
    | none => rw [q] at e1; cases e1
    | some y =>
      rw [q] at e1
      cases e1
      have hm := ha a (List.mem_of_getElem? q)
      cases a with
      | own _ => cases hm
      | odk _ => cases hm
      | olk _ _ => cases hm
      | _ => cases hx
theorem vok_up {u : Nat} : VOk (G.up u) F H v dv = VOk G F H v dv := by cases dv <;> rfl
theorem Gm.Ok.up (h : G.Ok) (u : Nat) : (G.up u).Ok := ⟨h.js, h.jm, h.jn, h.cb⟩
theorem Good.mono {a b : Nat} (g : Good (G.up a) F δ σ H) (h : a ≤ b) : Good (G.up b) F δ σ H :=
  ⟨⟨g.g.js, g.g.jm, g.g.jn, g.g.cb⟩, g.len, g.f0, g.fh, g.fr, g.bh, g.cf, g.g.jm _ _ _ (Nat.add_le_add_left h _) g.jh, fun i z e => by
    obtain ⟨w, ew, hw⟩ := g.sl i z e
    exact ⟨w, ew, by rw [vok_up] at hw ⊢; exact hw⟩, g.di⟩
theorem Good.later (g : Good G F δ σ H) (u : Nat) : Good (G.up u) F δ σ H := Good.mono (a := 0) g (Nat.zero_le u)
/-- what a callee leaves, seen from the caller -/
theorem Good.back {u : Nat} (g : Good G F δ σ H) {δ₁ : Env} {σ₁ : L2.St} (g' : Good ((G.into F H).up u) F' δ₁ σ₁ H') : Good (G.up u) F' δ σ H' := by
  have fr' : ∀ p, F' p ≠ none → F p = none → H p = none := g'.fr
  have bh' : ∀ p o, ¬ G.C p → H p = some o → H' p = some o := g'.bh
  refine ⟨g.g.up u, g.len, g.f0.trans g'.f0, g'.fh, fun p q1 q2 => ?_, fun p o c q => bh' p o c (g.bh p o c q), g'.cf, g'.jh, fun i z e => ?_, g.di⟩
  · cases q : F p with
    | some u => exact g.fr p (by rw [q]; simp) q2
    | none =>
      have hn := fr' p q1 q
      cases r : G.B p with
      | none => rfl
      | some u =>
        by_cases c : G.C p
        · exact absurd hn (g.g.jn _ H g.jh p c)
        · rw [g.bh p u c r] at hn
          cases hn
  · obtain ⟨w, ew, hw⟩ := g.sl i z e
    refine ⟨w, ew, by
      rw [vok_up]
      refine hw.keep g'.f0 (fun l vs ho hv hl => ?_) fun l ho hv hl => ?_
      · refine bh' l _ ?_ hl
        obtain ⟨l', _, r1, _, r5⟩ := bor_at hw ho
        rw [hv] at r1; cases r1; exact own_nc g r5
      · cases q : F' l with
        | none => rfl
        | some u =>
          have hn := fr' l (by rw [q]; simp) hl
          obtain ⟨l', _, r1, r2, _⟩ := own_at hw ho
          rw [hv] at r1; cases r1; rw [hn] at r2; cases r2⟩
theorem Good.ret {u : Nat} (g : Good G F δ σ H) {r : DV} {δ₁ : Env} {σ₁ : L2.St} (hr : r.arg = true) (g' : Good ((G.into F H).up u) F' (δ₁ ++ [some r]) (σ₁ ++ [some v]) H') : Good (G.up u) F' (δ ++ [some r]) (σ ++ [some v]) H' := by
  refine (g.back g').push ?_ (fun z => ?_)
  · have := g'.top
    cases r with
    | d _ => exact this
    | cask => exact this
    | raw _ => exact this
    | scr _ => exact this
    | _ => cases hr
  · cases r with
    | own _ => cases hr
    | odk _ => cases hr
    | olk _ _ => cases hr
    | _ => cases z
/-- only the top is kept, fixed -/
def DV.fix : DV → DV
  | .own xs => .d (.list xs)
  | .bor xs => .d (.list xs)
  | .odk xs => .d (.dict xs)
  | .bdk xs => .d (.dict xs)
  | .olk _ xs => .d (.dict xs)
  | .blk _ xs => .d (.dict xs)
  | .ldk _ xs => .d (.dict xs)
  | .exc a _ _ _ => .raw (.ref a)
  | x => x
theorem Good.last (g : Good G F (δ ++ [some dv]) (σ ++ [some v]) H) : Good G F [some dv] [some v] H := by
  have t := g.top
  refine ⟨g.g, rfl, g.f0, g.fh, g.fr, g.bh, g.cf, g.jh, fun i z e => ?_, fun i j a b l _ _ e1 e2 _ _ => ?_⟩
  · match i, e with
    | 0, e => cases e; exact ⟨v, rfl, t⟩
    | i + 1, e => simp at e
  · match i, j, e1, e2 with
    | 0, 0, _, _ => rfl
    | i + 1, _, e1, _ => simp at e1
    | 0, j + 1, _, e2 => simp at e2
theorem Good.asOwn (q : Good G F [some dv] [some v] H) {x : DV} (h : VOk G F H v x) : Good G F [some x] [some v] H := by
  refine ⟨q.g, rfl, q.f0, q.fh, q.fr, q.bh, q.cf, q.jh, fun i z e => ?_, fun i j a b l _ _ e1 e2 _ _ => ?_⟩
  · match i, e with
    | 0, e => cases e; exact ⟨_, rfl, h⟩
    | i + 1, e => simp at e
  · match i, j, e1, e2 with
    | 0, 0, _, _ => rfl
    | i + 1, _, e1, _ => simp at e1
    | 0, j + 1, _, e2 => simp at e2
theorem Good.fixLast (g : Good G F (δ ++ [some dv]) (σ ++ [some v]) H) : ∃ F', Same F F' ∧ Good G F' [some dv.fix] [some v] H := by
  have q := g.last
  cases dv with
  | own xs => exact q.freeze (n := 0) rfl
  | odk xs => exact q.freezeK (n := 0) rfl
  | bor xs =>
    obtain ⟨l, vs, rfl, h1, h2, h4⟩ := g.top
    cases h3 : F l with
    | none => exact (q.asOwn (x := .own xs) ⟨l, vs, rfl, h1, h2, h3, h4⟩).freeze (n := 0) rfl
    | some u =>
      have hu := g.fh _ _ h3
      rw [h1] at hu
      cases hu
      exact ⟨F, Same.refl F, q.asOwn (x := .d (.list xs)) (.lst h3 h2)⟩
  | olk p xs => exact q.freezeL (n := 0) rfl
  | ldk p xs =>
    obtain ⟨_, _, rfl, h1, h2⟩ := g.top
    exact ⟨F, Same.refl F, q.asOwn (x := .d (.dict xs)) (.dct (.inr ⟨_, h1⟩) h2)⟩
  | blk p xs =>
    obtain ⟨_, _, rfl, h1, h2, h4⟩ := g.top
    cases h3 : F (p ()).a with
    | none => exact (q.asOwn (x := .olk p xs) ⟨_, rfl, rfl, h1, h2, h3, h4⟩).freezeL (n := 0) rfl
    | some u =>
      have hu := g.fh _ _ h3
      rw [h1] at hu
      cases hu
      exact ⟨F, Same.refl F, q.asOwn (x := .d (.dict xs)) (.dct (.inr ⟨_, h3⟩) h2)⟩
  | bdk xs =>
    obtain ⟨l, vs, rfl, h1, h2, h4⟩ := g.top
    cases h3 : F l with
    | none =>
      rcases h1 with h1 | ⟨o, h1⟩
      · exact (q.asOwn (x := .odk xs) ⟨l, vs, rfl, h1, h2, h3, h4⟩).freezeK (n := 0) rfl
      · exact (q.asOwn (x := .olk (fun _ => ⟨l, o, vs⟩) xs) ⟨_, rfl, rfl, h1, h2, h3, h4⟩).freezeL (n := 0) rfl
    | some u =>
      have hu := g.fh _ _ h3
      rcases h1 with h1 | ⟨o, h1⟩
      · rw [h1] at hu
        cases hu
        exact ⟨F, Same.refl F, q.asOwn (x := .d (.dict xs)) (.dct (.inl h3) h2)⟩
      · rw [h1] at hu
        cases hu
        exact ⟨F, Same.refl F, q.asOwn (x := .d (.dict xs)) (.dct (.inr ⟨_, h3⟩) h2)⟩
  | d x => exact ⟨F, Same.refl F, q⟩
  | cask => exact ⟨F, Same.refl F, q⟩
  | raw u => exact ⟨F, Same.refl F, q⟩
  | scr _ => exact ⟨F, Same.refl F, q⟩
  | exc a C d arg => exact ⟨F, Same.refl F, q.asOwn (x := .raw (.ref a)) g.top.1⟩
theorem fix_arg (dv : DV) : dv.fix.arg = true := by cases dv <;> rfl
end
end DL

namespace DL
open PySem PySem.Spec L2

def ExcAt (K : PySem.W.Frag) (mg : Str → Option Value) (F H : Hp) (e : DExc) (cls : Value) (d : Option Addr) : Prop :=
  ∃ C, mg e.cls = some (.ref C) ∧ cls = .ref C ∧ match e.arg with
    | none => d = none
    | some (f, x) => ∃ dd v, d = some dd ∧ F dd = some (.xd [(f, v)]) ∧ At K F v x
abbrev XD := DExc → Env → Prop
abbrev ME := XD → Env → (DV → Prop) → Prop
abbrev MT := XD → Env → (Bool → Prop) → Prop
abbrev MA := XD → Env → (List DV → Prop) → Prop
abbrev MG := DV → Env → (Env → Prop) → Prop
structure DEnds where
  nx : Env → Prop
  rt : DV → Prop
  bk : Env → Prop
  ct : Env → Prop
abbrev MS := XD → DEnds → Env → Prop
abbrev MF := List DV → (DV → Prop) → (DExc → Prop) → Prop

/-- what is wanted of an error that leaves; which objects of draws there may be -/
structure WC where
  w : WX
  ck : (Addr → Prop) → V → (Nat → Hp → Prop) → Nat → Prop
def Link (K : PySem.W.Frag) (mg : Str → Option Value) (W : WC) (u : Nat) (G : Gm) (τ : Env) (ts : L2.St) (ex : XD) : Prop :=
  ∀ (b : Nat) (F : Hp) (δ : Env) (σ : L2.St) (H : Hp) (τ1 : Env) (ts1 : L2.St) (e : DExc) (cls : Value) (d : Option Addr), b ≤ u → δ.length = σ.length → Good (G.up b) F (δ ++ τ ++ τ1) (σ ++ ts ++ ts1) H → ExcAt K mg F H e cls d → ex e δ → W.w cls d σ H
structure Now (K : PySem.W.Frag) (mg : Str → Option Value) (W : WC) (u : Nat) (ex : XD) (G : Gm) (F : Hp) (δ : Env) (σ : L2.St) (τ : Env) (ts : L2.St) (τ1 : Env) (ts1 : L2.St) (H : Hp) : Prop where
  k : G.K = K
  l1 : δ.length = σ.length
  l2 : τ.length = ts.length
  good : Good G F (δ ++ τ ++ τ1) (σ ++ ts ++ ts1) H
  link : Link K mg W u G τ ts ex
  ck : W.ck G.C G.cv G.J G.lim ∧ G.n + u ≤ G.lim

def liftE (K : PySem.W.Frag) (mg : Str → Option Value) (W : WC) (u : Nat) (m : ME) : TE := fun σ H Q => ∃ (ex : XD) (G : Gm) (F : Hp) (δ τ : Env) (ts : L2.St) (τ1 : Env) (ts1 : L2.St) (R : DV → Prop), Now K mg W u ex G F δ σ τ ts τ1 ts1 H ∧ m ex δ R ∧
  ∀ r, R r → ∀ v F' H', Good (G.up u) F' (δ ++ τ ++ τ1 ++ [some r]) (σ ++ ts ++ ts1 ++ [some v]) H' → Q v H'
def liftT (K : PySem.W.Frag) (mg : Str → Option Value) (W : WC) (u : Nat) (m : MT) : TT := fun σ H Q => ∃ (ex : XD) (G : Gm) (F : Hp) (δ τ : Env) (ts : L2.St) (τ1 : Env) (ts1 : L2.St) (R : Bool → Prop), Now K mg W u ex G F δ σ τ ts τ1 ts1 H ∧ m ex δ R ∧
  ∀ r, R r → ∀ F' H', Good (G.up u) F' (δ ++ τ ++ τ1) (σ ++ ts ++ ts1) H' → Q r H'
def liftA (K : PySem.W.Frag) (mg : Str → Option Value) (W : WC) (u : Nat) (m : MA) : TA := fun σ H Q => ∃ (ex : XD) (G : Gm) (F : Hp) (δ τ : Env) (ts : L2.St) (τ1 : Env) (ts1 : L2.St) (R : List DV → Prop), Now K mg W u ex G F δ σ τ ts τ1 ts1 H ∧ m ex δ R ∧
  ∀ rs, R rs → ∀ (vs : List V) F' H', rs.length = vs.length → Good (G.up u) F' (δ ++ τ ++ τ1 ++ rs.map some) (σ ++ ts ++ ts1 ++ vs.map some) H' → Q vs H'
/-- a target: the value lies at the top; dom: the slots that may change -/
def liftG (K : PySem.W.Frag) (dom : List Nat) (m : MG) : TG := fun v σ H Q => ∃ (G : Gm) (F : Hp) (δ τ : Env) (ts : L2.St) (r : DV) (R : Env → Prop), G.K = K ∧ δ.length = σ.length ∧ τ.length = ts.length ∧ Good G F (δ ++ τ ++ [some r]) (σ ++ ts ++ [some v]) H ∧ m r δ R ∧
  ∀ δ', R δ' → ∀ σ' F' H', δ'.length = δ.length → σ'.length = σ.length → (∀ j, j ∉ dom → σ'[j]? = σ[j]?) → (NoBor δ → NoBor δ') → Good G F' (δ' ++ τ) (σ' ++ ts) H' → Q σ' H'
structure EndsOk (G : Gm) (u : Nat) (τ : Env) (ts : L2.St) (E : DEnds) (D : Ends) : Prop where
  nx : ∀ δ, E.nx δ → ∀ b σ F H, b ≤ u → δ.length = σ.length → NoBor (δ ++ τ) → Good (G.up b) F (δ ++ τ) (σ ++ ts) H → D.nx σ H
  bk : ∀ δ, E.bk δ → ∀ b σ F H, b ≤ u → δ.length = σ.length → NoBor (δ ++ τ) → Good (G.up b) F (δ ++ τ) (σ ++ ts) H → D.bk σ H
  ct : ∀ δ, E.ct δ → ∀ b σ F H, b ≤ u → δ.length = σ.length → NoBor (δ ++ τ) → Good (G.up b) F (δ ++ τ) (σ ++ ts) H → D.ct σ H
  rt : ∀ r, E.rt r → r.arg = true → ∀ b v F H, b ≤ u → Good (G.up b) F [some r] [some v] H → D.rt v H
def liftS (K : PySem.W.Frag) (mg : Str → Option Value) (W : WC) (u : Nat) (m : MS) : TS := fun D σ H => ∃ (ex : XD) (G : Gm) (F : Hp) (δ τ : Env) (ts : L2.St) (E : DEnds), Now K mg W u ex G F δ σ τ ts [] [] H ∧ NoBor (δ ++ τ) ∧ EndsOk G u τ ts E D ∧ m ex E δ

structure DE (X : Cx) (W : WC) (e : Expr) (m : ME) (u : Nat) : Prop where
  pe : PE X e (liftE X.K X.mg W u m)
structure DT (X : Cx) (W : WC) (e : Expr) (m : MT) (u : Nat) : Prop where
  pt : PT X e (liftT X.K X.mg W u m)
structure DW (X : Cx) (W : WC) (e : Expr) (m : MT) (u : Nat) : Prop where
  pw : PW X e (liftT X.K X.mg W u m)
structure DA (X : Cx) (W : WC) (es : List Expr) (m : MA) (u : Nat) : Prop where
  pa : PA X es (liftA X.K X.mg W u m)
structure DG (X : Cx) (tg : Expr) (dom : List Nat) (m : MG) : Prop where
  pg : PG X tg (liftG X.K dom m)
structure DS (X : Cx) (W : WC) (st : Stmt) (m : MS) (u : Nat) : Prop where
  ps : PS X st (liftS X.K X.mg W u m)
structure DSs (X : Cx) (W : WC) (st : List Stmt) (m : MS) (u : Nat) : Prop where
  pss : PSs X st (liftS X.K X.mg W u m)

theorem PE.imp {X : Cx} {e : Expr} {t t' : TE} (h : PE X e t) (i : ∀ σ H Q, t' σ H Q → t σ H Q) : PE X e t' := ⟨fun pins s σ H Q I q => h.run pins s σ H Q I (i _ _ _ q)⟩
theorem PT.imp {X : Cx} {e : Expr} {t t' : TT} (h : PT X e t) (i : ∀ σ H Q, t' σ H Q → t σ H Q) : PT X e t' := ⟨fun pins s σ H Q I q => h.run pins s σ H Q I (i _ _ _ q)⟩
theorem PW.imp {X : Cx} {e : Expr} {t t' : TT} (h : PW X e t) (i : ∀ σ H Q, t' σ H Q → t σ H Q) : PW X e t' := ⟨fun w pins s σ H Q I q => h.run w pins s σ H Q I (i _ _ _ q)⟩
theorem PA.imp {X : Cx} {e : List Expr} {t t' : TA} (h : PA X e t) (i : ∀ σ H Q, t' σ H Q → t σ H Q) : PA X e t' := ⟨fun p pins s σ H Q I q => h.run p pins s σ H Q I (i _ _ _ q)⟩
theorem PG.imp {X : Cx} {e : Expr} {t t' : TG} (h : PG X e t) (i : ∀ v σ H Q, t' v σ H Q → t v σ H Q) : PG X e t' := ⟨fun pins s σ H v u Q I r q => h.run pins s σ H v u Q I r (i _ _ _ _ q)⟩
theorem PS.imp {X : Cx} {e : Stmt} {t t' : TS} (h : PS X e t) (i : ∀ D σ H, t' D σ H → t D σ H) : PS X e t' := ⟨fun pins s σ H D I q => h.run pins s σ H D I (i _ _ _ q)⟩
theorem PSs.imp {X : Cx} {e : List Stmt} {t t' : TS} (h : PSs X e t) (i : ∀ D σ H, t' D σ H → t D σ H) : PSs X e t' := ⟨fun pins s σ H D I q => h.run pins s σ H D I (i _ _ _ q)⟩
theorem PI.imp {X : Cx} {tg e : Expr} {t t' : TI} (h : PI X tg e t) (i : ∀ σ H Q, t' σ H Q → t σ H Q) : PI X tg e t' := ⟨fun pins s σ H Q I q => h.run pins s σ H Q I (i _ _ _ q)⟩

section
variable {X : Cx} {W : WC}
variable {u u1 u2 u3 : Nat}
theorem Now.after {ex : XD} {G : Gm} {F F' : Hp} {δ τ τ1 : Env} {σ ts ts1 : L2.St} {H H' : Hp} {rs : Env} {vs : L2.St} (n : Now X.K X.mg W (u1 + u2) ex G F δ σ τ ts τ1 ts1 H) (g : Good (G.up u1) F' (δ ++ τ ++ τ1 ++ rs) (σ ++ ts ++ ts1 ++ vs) H') :
    Now X.K X.mg W u2 ex (G.up u1) F' δ σ τ ts (τ1 ++ rs) (ts1 ++ vs) H' := ⟨n.k, n.l1, n.l2, by rw [← List.append_assoc (δ ++ τ), ← List.append_assoc (σ ++ ts)]; exact g,
  fun b F δ σ H τ1 ts1 e cls d hb h1 h2 h3 h4 => n.link (u1 + b) F δ σ H τ1 ts1 e cls d (Nat.add_le_add_left hb _) h1 (by rw [← up_up]; exact h2) h3 h4, n.ck.1, by have := n.ck.2; show G.n + u1 + u2 ≤ G.lim; omega⟩
theorem Now.here {ex : XD} {G : Gm} {F F' : Hp} {δ τ τ1 : Env} {σ ts ts1 : L2.St} {H H' : Hp} (n : Now X.K X.mg W (u1 + u2) ex G F δ σ τ ts τ1 ts1 H) (g : Good (G.up u1) F' (δ ++ τ ++ τ1) (σ ++ ts ++ ts1) H') :
    Now X.K X.mg W u2 ex (G.up u1) F' δ σ τ ts τ1 ts1 H' := ⟨n.k, n.l1, n.l2, g, fun b F δ σ H τ1 ts1 e cls d hb h1 h2 h3 h4 => n.link (u1 + b) F δ σ H τ1 ts1 e cls d (Nat.add_le_add_left hb _) h1 (by rw [← up_up]; exact h2) h3 h4, n.ck.1, by have := n.ck.2; show G.n + u1 + u2 ≤ G.lim; omega⟩
theorem Now.le {ex : XD} {G : Gm} {F : Hp} {δ τ τ1 : Env} {σ ts ts1 : L2.St} {H : Hp} (n : Now X.K X.mg W u ex G F δ σ τ ts τ1 ts1 H) (h : u1 ≤ u) : Now X.K X.mg W u1 ex G F δ σ τ ts τ1 ts1 H :=
  ⟨n.k, n.l1, n.l2, n.good, fun b F δ σ H τ1 ts1 e cls d hb => n.link b F δ σ H τ1 ts1 e cls d (Nat.le_trans hb h), n.ck.1, by have := n.ck.2; omega⟩
theorem Now.fst {ex : XD} {G : Gm} {F : Hp} {δ τ τ1 : Env} {σ ts ts1 : L2.St} {H : Hp} (n : Now X.K X.mg W (u1 + u2) ex G F δ σ τ ts τ1 ts1 H) : Now X.K X.mg W u1 ex G F δ σ τ ts τ1 ts1 H := n.le (Nat.le_add_right _ _)

/-! ## expressions -/
def DV.seen : DV → DV
  | .own xs => .bor xs
  | .odk xs => .bdk xs
  | .olk p xs => .blk p xs
  | x => x
def mVar (i : Nat) : ME := fun _ δ R => match δ[i]? with
  | some (some dv) => R dv.seen
  | _ => False
theorem seen_ok {G : Gm} {F H : Hp} {v : V} {dv : DV} (h : VOk G F H v dv) : VOk G F H v dv.seen := by
  cases dv with
  | own xs => obtain ⟨l, vs, h1, h2, h3, _, h5⟩ := h; exact ⟨l, vs, h1, h2, h3, h5⟩
  | odk xs => obtain ⟨l, vs, h1, h2, h3, _, h5⟩ := h; exact ⟨l, vs, h1, .inl h2, h3, h5⟩
  | olk p xs => obtain ⟨_, _, h1, h2, h3, _, h5⟩ := h; exact ⟨_, rfl, h1, h2, h3, h5⟩
  | _ => exact h
theorem seen_own (dv : DV) : dv.seen.isOwn = false := by cases dv <;> rfl
theorem de_pv (i : Nat) {x : Str} {pos : Pos} (hN : X.N[i]? = some x := by rfl) (hv : Vis X.env.scope x := by first | exact Or.inl rfl | exact Or.inr (Or.inl rfl) | exact Or.inr (Or.inr rfl)) (hd : (x == ("__debug__" : Str)) = false := by decide)
    (hcd : (x == ("__classdict__" : Str)) = false := by decide) : DE X W (.Name x pos) (mVar i) 0 := by
  refine ⟨PE.imp (pe_var hN hv hd hcd) ?_⟩
  rintro σ H Q ⟨ex, G, F, δ, τ, ts, τ1, ts1, R, n, m, k⟩
  unfold mVar at m
  split at m
  · rename_i dv e
    have hi : i < δ.length := (List.getElem?_eq_some_iff.mp e).1
    have e' : (δ ++ τ ++ τ1)[i]? = some (some dv) := by rw [List.append_assoc, List.getElem?_append_left hi]; exact e
    obtain ⟨v, ev, hv⟩ := n.good.get e'
    rw [List.append_assoc, List.getElem?_append_left (by rw [← n.l1]; exact hi)] at ev
    refine ⟨v, ev, k _ m v F H (n.good.push (seen_ok hv) fun z => ?_)⟩
    rw [seen_own] at z
    cases z
  · exact m.elim
def mC (x : PyData) : ME := fun _ _ R => R (.d x)
def mRaw (v : V) : ME := fun _ _ R => R (.raw v)
theorem de_of_tC {e : Expr} {v : V} {x : PyData} (h : PE X e (tC v)) (hx : ∀ F, At X.K F v x) : DE X W e (mC x) 0 := by
  refine ⟨PE.imp h ?_⟩
  rintro σ H Q ⟨ex, G, F, δ, τ, ts, τ1, ts1, R, n, m, k⟩
  exact k _ m v F H (n.good.pushD (by rw [n.k]; exact hx F))
theorem de_of_tR {e : Expr} {v : V} (h : PE X e (tC v)) : DE X W e (mRaw v) 0 := by
  refine ⟨PE.imp h ?_⟩
  rintro σ H Q ⟨ex, G, F, δ, τ, ts, τ1, ts1, R, n, m, k⟩
  exact k _ m v F H (n.good.push rfl fun z => by cases z)
theorem de_int {i j pos} : DE X W (.Constant (.int i) j pos) (mC (.int i)) 0 := de_of_tC pe_int fun _ => .int i
theorem de_bl {b j pos} : DE X W (.Constant (.bool b) j pos) (mC (.bool b)) 0 := de_of_tC pe_bl fun _ => .bl b
theorem de_non {j pos} : DE X W (.Constant .none j pos) (mC .none) 0 := de_of_tC pe_non fun _ => .non
theorem de_str {x j pos} : DE X W (.Constant (.str x) j pos) (mC (.str x)) 0 := de_of_tC pe_str fun _ => .str x
/-- a module's constant -/
theorem de_gi {x : Str} {i : Int} {pos : Pos} (hg : Gl X x) (hm : ∃ t, X.mg x = some (.int i t)) (hd : (x == ("__debug__" : Str)) = false := by decide) : DE X W (.Name x pos) (mC (.int i)) 0 := by
  obtain ⟨t, hm⟩ := hm
  exact de_of_tC (pe_glob (v := .int i) hg hm ⟨t, rfl⟩ hd) fun _ => .int i
theorem de_gs {x y : Str} {pos : Pos} (hg : Gl X x) (hm : ∃ t, X.mg x = some (.str y t)) (hd : (x == ("__debug__" : Str)) = false := by decide) : DE X W (.Name x pos) (mC (.str y)) 0 := by
  obtain ⟨t, hm⟩ := hm
  exact de_of_tC (pe_glob (v := .str y) hg hm ⟨t, rfl⟩ hd) fun _ => .str y
theorem de_gc {x : Str} {C : Addr} {pos : Pos} (hg : Gl X x) (hm : X.mg x = some (.ref C)) (hd : (x == ("__debug__" : Str)) = false := by decide) : DE X W (.Name x pos) (mRaw (.ref C)) 0 :=
  de_of_tR (pe_glob (v := .ref C) hg hm rfl hd)
/-- a built-in class as a value -/
theorem de_ty {x : Str} {T : String} {pos : Pos} (hg : Gl X x) (hm : X.mg x = none) (hv : bootBuiltins x = some (.type T)) (hn : x ≠ "__name__" := by decide) (hd : (x == ("__debug__" : Str)) = false := by decide) : DE X W (.Name x pos) (mRaw (.ty T)) 0 :=
  de_of_tR (pe_bltn (v := .ty T) hg hm hv rfl hn hd)

abbrev D2 := DV → DV → (DV → Prop) → Prop
abbrev D1 := DV → (DV → Prop) → Prop
/-- what a HandS rule of two values gives for data -/
def Op2 (X : Cx) (r : R2) (o : D2) : Prop :=
  ∀ (G : Gm) (F : Hp) (δ : Env) (σ : L2.St) (H : Hp) (v u : V) (x y : DV) (R : DV → Prop) (Q : VK), G.K = X.K → Good G F δ σ H → VOk G F H v x → VOk G F H u y → o x y R →
    (∀ z, R z → ∀ w F' H', Good G F' (δ ++ [some z]) (σ ++ [some w]) H' → Q w H') → r v u H Q
def mBin (o : D2) (ma mb : ME) : ME := fun ex δ R => ma ex δ fun x => mb ex δ fun y => o x y R
variable {a b c e : Expr} {pos : Pos} {ma mb mc : ME}
theorem bin_lift {r : R2} {o : D2} (h : Op2 X r o) (σ : L2.St) (H : Hp) (Q : VK) (q : liftE X.K X.mg W (u1 + u2) (mBin o ma mb) σ H Q) :
    liftE X.K X.mg W u1 ma σ H fun x H1 => liftE X.K X.mg W u2 mb σ H1 fun y H2 => r x y H2 Q := by
  obtain ⟨ex, G, F, δ, τ, ts, τ1, ts1, R, n, m, k⟩ := q
  refine ⟨ex, G, F, δ, τ, ts, τ1, ts1, _, n.fst, m, fun x hx v F1 H1 g1 => ?_⟩
  refine ⟨ex, G.up u1, F1, δ, τ, ts, _, _, _, n.after g1, hx, fun y hy u F2 H2 g2 => ?_⟩
  have e1 : Good (G.up (u1 + u2)) F2 (δ ++ τ ++ τ1 ++ [some x] ++ [some y]) (σ ++ ts ++ ts1 ++ [some v] ++ [some u]) H2 := by
    rw [up_up] at g2
    simpa only [List.append_assoc] using g2
  exact h (G.up (u1 + u2)) F2 _ _ H2 v u x y R Q n.k e1.pop.pop e1.pop.top e1.top hy k
theorem de_op {op : Operator} {r : R2} {o : D2} (h : OpR X (binaryOp op) r) (ho : Op2 X r o) (ha : DE X W a ma u1) (hb : DE X W b mb u2) : DE X W (.BinOp a op b pos) (mBin o ma mb) (u1 + u2) :=
  ⟨PE.imp (pe_op h ha.pe hb.pe) fun σ H Q q => bin_lift ho σ H Q q⟩
theorem de_cmp {op : CmpOp} {r : R2} {o : D2} (h : OpR X (compareOp op) r) (ho : Op2 X r o) (ha : DE X W a ma u1) (hb : DE X W b mb u2) (hm : behindInMarks op b = false) : DE X W (.Compare a [op] [b] pos) (mBin o ma mb) (u1 + u2) :=
  ⟨PE.imp (pe_cmpR h ha.pe hb.pe hm) fun σ H Q q => bin_lift ho σ H Q q⟩
/-- a value as a truth -/
def DV.tru : DV → (Bool → Prop) → Prop
  | .d (.bool b), R => R b
  | _, _ => False
def mB (m : ME) : MT := fun ex δ R => m ex δ fun x => x.tru R
theorem liftT_of {m : ME} (σ : L2.St) (H : Hp) (Q : Bool → Hp → Prop) (q : liftT X.K X.mg W u (mB m) σ H Q) : liftE X.K X.mg W u m σ H fun x H1 => ∃ k, x = .bl k ∧ Q k H1 := by
  obtain ⟨ex, G, F, δ, τ, ts, τ1, ts1, R, n, m, k⟩ := q
  refine ⟨ex, G, F, δ, τ, ts, τ1, ts1, _, n, m, fun x hx v F1 H1 g1 => ?_⟩
  have t := g1.top
  match x, hx, t with
  | .d (.bool b), hx, t =>
    cases t
    exact ⟨b, rfl, k b hx F1 H1 g1.pop⟩
theorem dt_cmp {op : CmpOp} {r : R2} {o : D2} (h : OpR X (compareOp op) r) (ho : Op2 X r o) (ha : DE X W a ma u1) (hb : DE X W b mb u2) (hm : behindInMarks op b = false) : DT X W (.Compare a [op] [b] pos) (mB (mBin o ma mb)) (u1 + u2) :=
  ⟨PT.imp (pt_cmpR h ha.pe hb.pe hm) fun σ H Q q => by
    have q' := liftT_of σ H Q q
    exact bin_lift ho σ H _ q'⟩
theorem dt_val {m : ME} (h : DE X W e m u) (he : ∀ whole, isTrue e X.env whole = (do let v ← whole; standAt e.pos; holding [v] (truthy v)) := by intro _; rfl) : DT X W e (mB m) u :=
  ⟨PT.imp (pt_val h.pe he) fun σ H Q q => liftT_of σ H Q q⟩
/-- two comparisons in a row -/
def mChain (o o' : D2) (ma mb mc : ME) : ME := fun ex δ R => ma ex δ fun x => mb ex δ fun y => o x y fun z => z.tru fun k => (k = true → mc ex δ fun w => o' y w R) ∧ (k = false → R (.d (.bool false)))
theorem chain_lift {r r' : R2} {o o' : D2} (h : Op2 X r o) (h' : Op2 X r' o') (hs : ∀ x y R, o x y R → o x y fun z => R z ∧ ∃ k, z = .d (.bool k)) (σ : L2.St) (H : Hp) (Q : VK) (q : liftE X.K X.mg W (u1 + (u2 + u3)) (mChain o o' ma mb mc) σ H Q) :
    liftE X.K X.mg W u1 ma σ H fun x H1 => liftE X.K X.mg W u2 mb σ H1 fun y H2 => r x y H2 fun z H3 => ∃ k, z = .bl k ∧ (if k = true then liftE X.K X.mg W u3 mc σ H3 fun w' H4 => r' y w' H4 Q else Q (.bl false) H3) := by
  obtain ⟨ex, G, F, δ, τ, ts, τ1, ts1, R, n, m, k⟩ := q
  refine ⟨ex, G, F, δ, τ, ts, τ1, ts1, _, n.fst, m, fun x hx v F1 H1 g1 => ?_⟩
  have n1 := n.after g1
  refine ⟨ex, G.up u1, F1, δ, τ, ts, _, _, _, n1.fst, hx, fun y hy u F2 H2 g2 => ?_⟩
  have e1 : Good (G.up (u1 + u2)) F2 (δ ++ τ ++ τ1 ++ [some x] ++ [some y]) (σ ++ ts ++ ts1 ++ [some v] ++ [some u]) H2 := by
    rw [up_up] at g2
    simpa only [List.append_assoc] using g2
  refine h (G.up (u1 + u2)) F2 _ _ H2 v u x y _ _ n.k e1 e1.pop.top e1.top (hs _ _ _ hy) fun z ⟨hz, bk, ez⟩ w F3 H3 g3 => ?_
  subst ez
  have t : VOk (G.up (u1 + u2)) F3 H3 w (.d (.bool bk)) := g3.top
  cases t
  refine ⟨bk, rfl, ?_⟩
  cases bk with
  | false =>
    rw [if_neg Bool.false_ne_true]
    exact k _ (hz.2 rfl) _ F3 H3 ((g3.pop.pop.pop.pushD (.bl false)).mono (by omega))
  | true =>
    rw [if_pos rfl]
    have e3 : Good ((G.up u1).up u2) F3 (δ ++ τ ++ (τ1 ++ [some x]) ++ [some y]) (σ ++ ts ++ (ts1 ++ [some v]) ++ [some u]) H3 := by
      have := g3.pop
      rw [← up_up] at this
      simpa only [List.append_assoc] using this
    refine ⟨ex, (G.up u1).up u2, F3, δ, τ, ts, _, _, _, n1.after e3, hz.1 rfl, fun y' hy' u' F4 H4 g4 => ?_⟩
    have e4 : Good (G.up (u1 + (u2 + u3))) F4 (δ ++ τ ++ τ1 ++ [some x] ++ [some y] ++ [some y']) (σ ++ ts ++ ts1 ++ [some v] ++ [some u] ++ [some u']) H4 := by
      rw [up_up, up_up] at g4
      simpa only [List.append_assoc] using g4
    exact h' (G.up (u1 + (u2 + u3))) F4 _ _ H4 u u' y y' R Q n.k e4.pop.pop.pop e4.pop.top e4.top hy' k
theorem de_chain {op op' : CmpOp} {r r' : R2} {o o' : D2} (h : OpR X (compareOp op) r) (h' : OpR X (compareOp op') r') (ho : Op2 X r o) (ho' : Op2 X r' o') (hs : ∀ x y R, o x y R → o x y fun z => R z ∧ ∃ k, z = .d (.bool k))
    (ha : DE X W a ma u1) (hb : DE X W b mb u2) (hc : DE X W c mc u3) (hm : ∀ ta tb tc, PE X a ta → PE X b tb → PE X c tc → PE X (.Compare a [op, op'] [b, c] pos) (tChain r r' ta tb tc)) : DE X W (.Compare a [op, op'] [b, c] pos) (mChain o o' ma mb mc) (u1 + (u2 + u3)) :=
  ⟨PE.imp (hm _ _ _ ha.pe hb.pe hc.pe) fun σ H Q q => chain_lift ho ho' hs σ H Q q⟩

/-! ### and, or, not, if .. else -/
variable {ta tb : MT} {rest : List Expr}
def mAnd (s t : MT) : MT := fun ex δ R => s ex δ fun c => (c = true → t ex δ R) ∧ (c = false → R false)
def mOr (s t : MT) : MT := fun ex δ R => s ex δ fun c => (c = true → R true) ∧ (c = false → t ex δ R)
def mNot (s : MT) : MT := fun ex δ R => s ex δ fun c => R (!c)
theorem DW.dt (h : DW X W e ta u) : DT X W e ta u := ⟨PW.pt h.pw⟩
theorem dw_and1 (h : DT X W a ta u) : DW X W (.BoolOp .And [a] pos) ta u := ⟨pw_and1 h.pt⟩
theorem dw_or1 (h : DT X W a ta u) : DW X W (.BoolOp .Or [a] pos) ta u := ⟨pw_or1 h.pt⟩
theorem dw_and (ha : DT X W a ta u1) (hb : DW X W (.BoolOp .And (b :: rest) pos) tb u2) : DW X W (.BoolOp .And (a :: b :: rest) pos) (mAnd ta tb) (u1 + u2) :=
  ⟨PW.imp (pw_and ha.pt hb.pw) fun σ H Q q => by
    obtain ⟨ex, G, F, δ, τ, ts, τ1, ts1, R, n, m, k⟩ := q
    refine ⟨ex, G, F, δ, τ, ts, τ1, ts1, _, n.fst, m, fun c hc F1 H1 g1 => ?_⟩
    cases c with
    | true => rw [if_pos rfl]; exact ⟨ex, G.up u1, F1, δ, τ, ts, τ1, ts1, R, n.here g1, hc.1 rfl, by rw [up_up]; exact k⟩
    | false => rw [if_neg Bool.false_ne_true]; exact k _ (hc.2 rfl) F1 H1 (g1.mono (Nat.le_add_right _ _))⟩
theorem dw_or (ha : DT X W a ta u1) (hb : DW X W (.BoolOp .Or (b :: rest) pos) tb u2) : DW X W (.BoolOp .Or (a :: b :: rest) pos) (mOr ta tb) (u1 + u2) :=
  ⟨PW.imp (pw_or ha.pt hb.pw) fun σ H Q q => by
    obtain ⟨ex, G, F, δ, τ, ts, τ1, ts1, R, n, m, k⟩ := q
    refine ⟨ex, G, F, δ, τ, ts, τ1, ts1, _, n.fst, m, fun c hc F1 H1 g1 => ?_⟩
    cases c with
    | true => rw [if_pos rfl]; exact k _ (hc.1 rfl) F1 H1 (g1.mono (Nat.le_add_right _ _))
    | false => rw [if_neg Bool.false_ne_true]; exact ⟨ex, G.up u1, F1, δ, τ, ts, τ1, ts1, R, n.here g1, hc.2 rfl, by rw [up_up]; exact k⟩⟩
theorem dt_not (ha : DT X W a ta u) : DT X W (.UnaryOp .Not a pos) (mNot ta) u :=
  ⟨PT.imp (pt_not ha.pt) fun σ H Q q => by
    obtain ⟨ex, G, F, δ, τ, ts, τ1, ts1, R, n, m, k⟩ := q
    exact ⟨ex, G, F, δ, τ, ts, τ1, ts1, _, n, m, fun c hc F1 H1 g1 => k _ hc F1 H1 g1⟩⟩
def mAndV (s t : ME) : ME := fun ex δ R => s ex δ fun x => x.tru fun c => (c = true → t ex δ R) ∧ (c = false → R (.d (.bool false)))
def mOrV (s t : ME) : ME := fun ex δ R => s ex δ fun x => x.tru fun c => (c = true → R (.d (.bool true))) ∧ (c = false → t ex δ R)
def mNotV (s : ME) : ME := fun ex δ R => s ex δ fun x => x.tru fun c => R (.d (.bool (!c)))
theorem tru_bl {G : Gm} {F H : Hp} {v : V} {x : DV} {R : Bool → Prop} (h : x.tru R) (t : VOk G F H v x) : ∃ c, v = .bl c ∧ R c := by
  match x, h, t with
  | .d (.bool b), h, t =>
    cases t
    exact ⟨b, rfl, h⟩
theorem de_one {op : BoolOp} (h : DE X W a ma u) : DE X W (.BoolOp op [a] pos) ma u := ⟨pe_one h.pe⟩
theorem de_and (ha : DE X W a ma u1) (hb : DE X W (.BoolOp .And (b :: rest) pos) mb u2) : DE X W (.BoolOp .And (a :: b :: rest) pos) (mAndV ma mb) (u1 + u2) :=
  ⟨PE.imp (pe_and ha.pe hb.pe) fun σ H Q q => by
    obtain ⟨ex, G, F, δ, τ, ts, τ1, ts1, R, n, m, k⟩ := q
    refine ⟨ex, G, F, δ, τ, ts, τ1, ts1, _, n.fst, m, fun x hx v F1 H1 g1 => ?_⟩
    obtain ⟨c, rfl, hc⟩ := tru_bl hx g1.top
    refine ⟨c, rfl, ?_⟩
    cases c with
    | true => rw [if_pos rfl]; exact ⟨ex, G.up u1, F1, δ, τ, ts, τ1, ts1, R, n.here g1.pop, hc.1 rfl, by rw [up_up]; exact k⟩
    | false => rw [if_neg Bool.false_ne_true]; exact k _ (hc.2 rfl) _ F1 H1 ((g1.pop.pushD (.bl false)).mono (Nat.le_add_right _ _))⟩
theorem de_or (ha : DE X W a ma u1) (hb : DE X W (.BoolOp .Or (b :: rest) pos) mb u2) : DE X W (.BoolOp .Or (a :: b :: rest) pos) (mOrV ma mb) (u1 + u2) :=
  ⟨PE.imp (pe_or ha.pe hb.pe) fun σ H Q q => by
    obtain ⟨ex, G, F, δ, τ, ts, τ1, ts1, R, n, m, k⟩ := q
    refine ⟨ex, G, F, δ, τ, ts, τ1, ts1, _, n.fst, m, fun x hx v F1 H1 g1 => ?_⟩
    obtain ⟨c, rfl, hc⟩ := tru_bl hx g1.top
    refine ⟨c, rfl, ?_⟩
    cases c with
    | true => rw [if_pos rfl]; exact k _ (hc.1 rfl) _ F1 H1 ((g1.pop.pushD (.bl true)).mono (Nat.le_add_right _ _))
    | false => rw [if_neg Bool.false_ne_true]; exact ⟨ex, G.up u1, F1, δ, τ, ts, τ1, ts1, R, n.here g1.pop, hc.2 rfl, by rw [up_up]; exact k⟩⟩
theorem de_not (ha : DE X W a ma u) : DE X W (.UnaryOp .Not a pos) (mNotV ma) u :=
  ⟨PE.imp (pe_not ha.pe) fun σ H Q q => by
    obtain ⟨ex, G, F, δ, τ, ts, τ1, ts1, R, n, m, k⟩ := q
    refine ⟨ex, G, F, δ, τ, ts, τ1, ts1, _, n, m, fun x hx v F1 H1 g1 => ?_⟩
    obtain ⟨c, rfl, hc⟩ := tru_bl hx g1.top
    exact ⟨c, rfl, k _ hc _ F1 H1 (g1.pop.pushD (.bl _))⟩⟩
def mIf (t : MT) (s u : ME) : ME := fun ex δ R => t ex δ fun c => (c = true → s ex δ R) ∧ (c = false → u ex δ R)
theorem de_if (hc : DT X W c ta u1) (ha : DE X W a ma u2) (hb : DE X W b mb u3) : DE X W (.IfExp c a b pos) (mIf ta ma mb) (u1 + (u2 + u3)) :=
  ⟨PE.imp (pe_ifExp hc.pt ha.pe hb.pe) fun σ H Q q => by
    obtain ⟨ex, G, F, δ, τ, ts, τ1, ts1, R, n, m, k⟩ := q
    refine ⟨ex, G, F, δ, τ, ts, τ1, ts1, _, n.fst, m, fun c hc F1 H1 g1 => ?_⟩
    cases c with
    | true => rw [if_pos rfl]; exact ⟨ex, G.up u1, F1, δ, τ, ts, τ1, ts1, R, (n.here g1).fst, hc.1 rfl, fun r hr v F' H' g' => k r hr v F' H' (by rw [up_up] at g'; exact g'.mono (by omega))⟩
    | false => rw [if_neg Bool.false_ne_true]; exact ⟨ex, G.up u1, F1, δ, τ, ts, τ1, ts1, R, (n.here g1).le (by omega), hc.2 rfl, fun r hr v F' H' g' => k r hr v F' H' (by rw [up_up] at g'; exact g'.mono (by omega))⟩⟩

/-! ### argument lists, calls of built-ins -/
def mNil : MA := fun _ _ R => R []
def mCons (m : ME) (t : MA) : MA := fun ex δ R => m ex δ fun x => t ex δ fun xs => R (x :: xs)
variable {es : List Expr} {mas : MA}
theorem da_nil : DA X W [] mNil 0 := ⟨PA.imp pa_nil fun σ H Q q => by
  obtain ⟨ex, G, F, δ, τ, ts, τ1, ts1, R, n, m, k⟩ := q
  exact k [] m [] F H rfl (by simpa using n.good.later 0)⟩
theorem da_cons (ha : DE X W e ma u1) (hr : DA X W es mas u2) (hs : starEach (e :: es) X.env = (false, eval e X.env) :: starEach es X.env := by rfl) : DA X W (e :: es) (mCons ma mas) (u1 + u2) :=
  ⟨PA.imp (pa_cons ha.pe hr.pa hs) fun σ H Q q => by
    obtain ⟨ex, G, F, δ, τ, ts, τ1, ts1, R, n, m, k⟩ := q
    refine ⟨ex, G, F, δ, τ, ts, τ1, ts1, _, n.fst, m, fun x hx v F1 H1 g1 => ?_⟩
    refine ⟨ex, G.up u1, F1, δ, τ, ts, _, _, _, n.after g1, hx, fun xs hxs vs F2 H2 hl g2 => ?_⟩
    rw [up_up] at g2
    refine k _ hxs (v :: vs) F2 H2 (by simp [hl]) ?_
    simpa only [List.append_assoc, List.map_cons, List.singleton_append, List.cons_append, List.nil_append] using g2⟩
theorem Good.cut {G : Gm} {F H : Hp} : ∀ {B : Env} {B' : L2.St} {A : Env} {A' : L2.St}, B.length = B'.length → Good G F (A ++ B) (A' ++ B') H → Good G F A A' H := by
  intro B
  induction B with
  | nil =>
    intro B' A A' hl g
    cases B' with
    | nil => simpa using g
    | cons _ _ => simp at hl
  | cons b B ih =>
    intro B' A A' hl g
    cases B' with
    | nil => simp at hl
    | cons b' B' =>
      have g' : Good G F (A ++ [b] ++ B) (A' ++ [b'] ++ B') H := by simpa using g
      exact (ih (by simpa using hl) g').pop
theorem Good.nth {G : Gm} {F H : Hp} {A : Env} {A' : L2.St} {rs : List DV} {vs : List V} (hl : rs.length = vs.length) (g : Good G F (A ++ rs.map some) (A' ++ vs.map some) H) {i : Nat} {r : DV} (e : rs[i]? = some r) : ∃ v, vs[i]? = some v ∧ VOk G F H v r := by
  have hA : A.length = A'.length := by
    have := g.len
    simp [hl] at this
    exact this
  obtain ⟨v, ev, h⟩ := g.sl (A.length + i) r (by rw [List.getElem?_append_right (Nat.le_add_right _ _)]; simp [e])
  rw [hA, List.getElem?_append_right (Nat.le_add_right _ _)] at ev
  simp only [Nat.add_sub_cancel_left, List.getElem?_map] at ev
  cases q : vs[i]? with
  | none => rw [q] at ev; cases ev
  | some w =>
    rw [q] at ev
    have : w = v := by simpa using ev
    subst this
    exact ⟨w, rfl, h⟩
abbrev DN := List DV → (DV → Prop) → Prop
/-- what a HandS rule of a built-in's call gives for data -/
def OpN (X : Cx) (r : List V → Hp → VK → Prop) (o : DN) : Prop :=
  ∀ (G : Gm) (F : Hp) (δ : Env) (σ : L2.St) (H : Hp) (vs : List V) (xs : List DV) (R : DV → Prop) (Q : VK), G.K = X.K → xs.length = vs.length → Good G F (δ ++ xs.map some) (σ ++ vs.map some) H → o xs R →
    (∀ z, R z → ∀ w F' H', Good G F' (δ ++ [some z]) (σ ++ [some w]) H' → Q w H') → r vs H Q
def mCB (o : DN) (t : MA) : ME := fun ex δ R => t ex δ fun xs => o xs R
theorem args_lift {r : List V → Hp → VK → Prop} {o : DN} (h : OpN X r o) (σ : L2.St) (H : Hp) (Q : VK) (q : liftE X.K X.mg W u (mCB o mas) σ H Q) : liftA X.K X.mg W u mas σ H fun vs H1 => r vs H1 Q := by
  obtain ⟨ex, G, F, δ, τ, ts, τ1, ts1, R, n, m, k⟩ := q
  refine ⟨ex, G, F, δ, τ, ts, τ1, ts1, _, n, m, fun xs hxs vs F1 H1 hl g1 => ?_⟩
  exact h (G.up u) F1 _ _ H1 vs xs R Q n.k hl g1 hxs k
theorem de_callB {id : String} {x : Str} {p : Pos} {r : List V → Hp → VK → Prop} {o : DN} (hc : CallR X (.builtin id) r) (ho : OpN X r o) (hg : Gl X x) (hm : X.mg x = none) (hv : bootBuiltins x = some (.builtin id)) (ha : DA X W (e :: es) mas u) (hn : x ≠ "__name__" := by decide) (hdb : (x == ("__debug__" : Str)) = false := by decide)
    (he : starEach (e :: es) X.env = (false, eval e X.env) :: starEach es X.env := by rfl) (hpl : (backTo pos (starEach es X.env)).any (·.1) = false := by rfl) : DE X W (.Call (.Name x p) (e :: es) [] pos) (mCB o mas) u :=
  ⟨PE.imp (pe_callB hc hg hm hv ha.pa hn hdb he hpl) fun σ H Q q => args_lift ho σ H Q q⟩
theorem de_callTy {T : String} {x : Str} {p : Pos} {r : List V → Hp → VK → Prop} {o : DN} (hc : CallR X (.type T) r) (ho : OpN X r o) (hg : Gl X x) (hm : X.mg x = none) (hv : bootBuiltins x = some (.type T)) (ha : DA X W (e :: es) mas u) (hn : x ≠ "__name__" := by decide) (hdb : (x == ("__debug__" : Str)) = false := by decide)
    (he : starEach (e :: es) X.env = (false, eval e X.env) :: starEach es X.env := by rfl) (hpl : (backTo pos (starEach es X.env)).any (·.1) = false := by rfl) : DE X W (.Call (.Name x p) (e :: es) [] pos) (mCB o mas) u :=
  ⟨PE.imp (pe_callTy hc hg hm hv ha.pa hn hdb he hpl) fun σ H Q q => args_lift ho σ H Q q⟩
end
end DL

namespace DL
open PySem PySem.Spec L2

/-! ## values to keep: owned ones are fixed -/
def DV.val : DV → Option PyData
  | .d x => some x
  | .own xs => some (.list xs)
  | .odk xs => some (.dict xs)
  | _ => none
def vals : List DV → Option (List PyData)
  | [] => some []
  | x :: xs => match x.val, vals xs with
    | some d, some ds => some (d :: ds)
    | _, _ => none
theorem fix_one {G : Gm} {F H : Hp} {A A2 : Env} {ρ : L2.St} {x : DV} {d : PyData} (g : Good G F (A ++ some x :: A2) ρ H) (e : x.val = some d) : ∃ F', Same F F' ∧ Good G F' (A ++ some (.d d) :: A2) ρ H := by
  cases x with
  | d y => cases e; exact ⟨F, Same.refl F, g⟩
  | own xs =>
    cases e
    obtain ⟨F', s, g'⟩ := g.freeze (n := A.length) (xs := xs) (by simp)
    refine ⟨F', s, ?_⟩
    rw [List.set_append_right _ _ (Nat.le_refl _), Nat.sub_self] at g'
    exact g'
  | odk xs =>
    cases e
    obtain ⟨F', s, g'⟩ := g.freezeK (n := A.length) (xs := xs) (by simp)
    refine ⟨F', s, ?_⟩
    rw [List.set_append_right _ _ (Nat.le_refl _), Nat.sub_self] at g'
    exact g'
  | _ => cases e
theorem fix_all {G : Gm} {H : Hp} {ρ : L2.St} : ∀ (xs : List DV) {F : Hp} {A : Env} {ds : List PyData}, Good G F (A ++ xs.map some) ρ H → vals xs = some ds → ∃ F', Same F F' ∧ Good G F' (A ++ ds.map (fun d => some (DV.d d))) ρ H
  | [], F, A, ds, g, e => by
    cases e
    exact ⟨F, Same.refl F, by simpa using g⟩
  | x :: xs, F, A, ds, g, e => by
    unfold vals at e
    split at e
    · rename_i d ds' e1 e2
      cases e
      obtain ⟨F1, s1, g1⟩ := fix_one (A := A) (A2 := xs.map some) (by simpa using g) e1
      obtain ⟨F2, s2, g2⟩ := fix_all xs (F := F1) (A := A ++ [some (.d d)]) (by simpa using g1) e2
      exact ⟨F2, s1.trans s2, by simpa using g2⟩
    · cases e
theorem atL_of {G : Gm} {F H : Hp} {A : Env} {A' : L2.St} : ∀ {ds : List PyData} {vs : List V}, ds.length = vs.length → Good G F (A ++ ds.map (fun d => some (DV.d d))) (A' ++ vs.map some) H → AtL G.K F vs ds := by
  intro ds vs hl g
  have hl' : (ds.map DV.d).length = vs.length := by simpa using hl
  have g' : Good G F (A ++ (ds.map DV.d).map some) (A' ++ vs.map some) H := by
    have : (ds.map DV.d).map some = ds.map (fun d => some (DV.d d)) := by simp
    rw [this]; exact g
  have all : ∀ (i : Nat) (d : PyData), ds[i]? = some d → ∃ v, vs[i]? = some v ∧ At G.K F v d := fun i d e => Good.nth hl' g' (r := .d d) (by simp [e])
  clear g g'
  induction ds generalizing vs with
  | nil =>
    cases vs with
    | nil => exact .nil
    | cons _ _ => simp at hl
  | cons d ds ih =>
    cases vs with
    | nil => simp at hl
    | cons v vs =>
      obtain ⟨w, ew, hw⟩ := all 0 d rfl
      cases ew
      refine .cons hw (ih (by simpa using hl) (by simpa using hl) fun i d' e => ?_)
      exact all (i + 1) d' (by simpa using e)

section
variable {u u1 u2 u3 : Nat} {X : Cx} {W : WC} {e : Expr} {es : List Expr} {pos : Pos} {mas : MA} {me : ME}
/-- (a, b, ..) -/
def mTup (t : MA) : ME := fun ex δ R => t ex δ fun xs => xs.length ≤ sizeLine ∧ match vals xs with
  | some ds => R (.d (.tuple ds))
  | none => False
def mLst (t : MA) : ME := fun ex δ R => t ex δ fun xs => xs.length ≤ sizeLine ∧ match vals xs with
  | some ds => R (.own ds)
  | none => False
theorem vals_len : ∀ {xs : List DV} {ds : List PyData}, vals xs = some ds → ds.length = xs.length
  | [], ds, e => by cases e; rfl
  | x :: xs, ds, e => by
    unfold vals at e
    split at e
    · rename_i d ds' e1 e2
      cases e
      rw [List.length_cons, List.length_cons, vals_len e2]
    · cases e
theorem de_tup {x1 : _} (h : DA X W es mas u) : DE X W (.Tuple es x1 pos) (mTup mas) u :=
  ⟨PE.imp (pe_tup h.pa) fun σ H Q q => by
    obtain ⟨ex, G, F, δ, τ, ts, τ1, ts1, R, n, m, k⟩ := q
    refine ⟨ex, G, F, δ, τ, ts, τ1, ts1, _, n, m, fun xs hxs vs F1 H1 hl g1 => ?_⟩
    obtain ⟨hz, hv⟩ := hxs
    refine ⟨by rw [← hl]; exact hz, fun p hp => ?_⟩
    split at hv
    · rename_i ds ev
      obtain ⟨F2, s2, g2⟩ := fix_all xs g1 ev
      have hd : ds.length = vs.length := (vals_len ev).trans hl
      have ha := atL_of hd g2
      exact k _ hv _ _ _ ((g2.cut (by simpa using hd)).newT hp ha)
    · exact hv.elim⟩
theorem de_lst (h : DA X W es mas u) : DE X W (.List es pos) (mLst mas) u :=
  ⟨PE.imp (pe_lst h.pa) fun σ H Q q => by
    obtain ⟨ex, G, F, δ, τ, ts, τ1, ts1, R, n, m, k⟩ := q
    refine ⟨ex, G, F, δ, τ, ts, τ1, ts1, _, n, m, fun xs hxs vs F1 H1 hl g1 => ?_⟩
    obtain ⟨hz, hv⟩ := hxs
    refine ⟨by rw [← hl]; exact hz, fun p hp => ?_⟩
    split at hv
    · rename_i ds ev
      obtain ⟨F2, s2, g2⟩ := fix_all xs g1 ev
      have hd : ds.length = vs.length := (vals_len ev).trans hl
      have ha := atL_of hd g2
      exact k _ hv _ _ _ ((g2.cut (by simpa using hd)).newO hp ha)
    · exact hv.elim⟩

/-! ## statements -/
variable {st : Stmt} {rest : List Stmt} {m m1 m2 : MS}
def mNext : MS := fun _ E δ => E.nx δ
def mSeq (m1 m2 : MS) : MS := fun ex E δ => m1 ex { E with nx := m2 ex E } δ
theorem nb0 {A B : Env} (h : NoBor (A ++ B ++ [])) : NoBor (A ++ B) := by simpa using h
theorem Now.g0 {ex : XD} {G : Gm} {F : Hp} {δ τ : Env} {σ ts : L2.St} {H : Hp} (n : Now X.K X.mg W u ex G F δ σ τ ts [] [] H) : Good G F (δ ++ τ) (σ ++ ts) H := by
  have := n.good
  simpa using this
theorem Now.to0 {ex : XD} {G : Gm} {F F' : Hp} {δ δ' τ : Env} {σ σ' ts : L2.St} {H H' : Hp} {b : Nat} (n : Now X.K X.mg W u ex G F δ σ τ ts [] [] H) (hb : b + u1 ≤ u) (hl : δ'.length = σ'.length) (g : Good (G.up b) F' (δ' ++ τ) (σ' ++ ts) H') : Now X.K X.mg W u1 ex (G.up b) F' δ' σ' τ ts [] [] H' :=
  ⟨n.k, hl, n.l2, by simpa using g, fun b' F δ σ H τ1 ts1 e cls d hb' h1 h2 h3 h4 => n.link (b + b') F δ σ H τ1 ts1 e cls d (by omega) h1 (by rw [← up_up]; exact h2) h3 h4, n.ck.1, by have := n.ck.2; show G.n + b + u1 ≤ G.lim; omega⟩
/-- the ends seen from later on -/
theorem EndsOk.up {G : Gm} {τ : Env} {ts : L2.St} {E : DEnds} {D : Ends} {b : Nat} (eo : EndsOk G u τ ts E D) (hb : b + u1 ≤ u) : EndsOk (G.up b) u1 τ ts E D :=
  ⟨fun δ h b' σ F H h1 h2 h3 h4 => eo.nx δ h (b + b') σ F H (by omega) h2 h3 (by rw [← up_up]; exact h4), fun δ h b' σ F H h1 h2 h3 h4 => eo.bk δ h (b + b') σ F H (by omega) h2 h3 (by rw [← up_up]; exact h4),
    fun δ h b' σ F H h1 h2 h3 h4 => eo.ct δ h (b + b') σ F H (by omega) h2 h3 (by rw [← up_up]; exact h4), fun r h ha b' v F H h1 h4 => eo.rt r h ha (b + b') v F H (by omega) (by rw [← up_up]; exact h4)⟩
theorem EndsOk.le {G : Gm} {τ : Env} {ts : L2.St} {E : DEnds} {D : Ends} (eo : EndsOk G u τ ts E D) (hb : u1 ≤ u) : EndsOk G u1 τ ts E D :=
  ⟨fun δ h b' σ F H h1 => eo.nx δ h b' σ F H (by omega), fun δ h b' σ F H h1 => eo.bk δ h b' σ F H (by omega), fun δ h b' σ F H h1 => eo.ct δ h b' σ F H (by omega), fun r h ha b' v F H h1 => eo.rt r h ha b' v F H (by omega)⟩
theorem dss_nil : DSs X W [] mNext 0 := ⟨PSs.imp pss_nil fun D σ H q => by
  obtain ⟨ex, G, F, δ, τ, ts, E, n, nb, eo, m⟩ := q
  exact eo.nx δ m 0 σ F H (Nat.le_refl _) n.l1 nb (n.g0.later 0)⟩
theorem seq_lift (D : Ends) (σ : L2.St) (H : Hp) (q : liftS X.K X.mg W (u1 + u2) (mSeq m1 m2) D σ H) : tSeq (liftS X.K X.mg W u1 m1) (liftS X.K X.mg W u2 m2) D σ H := by
  obtain ⟨ex, G, F, δ, τ, ts, E, n, nb, eo, m⟩ := q
  have e1 : EndsOk G u1 τ ts E D := eo.le (Nat.le_add_right _ _)
  exact ⟨ex, G, F, δ, τ, ts, { E with nx := m2 ex E }, n.fst, nb, ⟨fun δ' h b σ' F' H' hb hl nb' g => ⟨ex, G.up b, F', δ', τ, ts, E, n.to0 (Nat.add_le_add_right hb _) hl g, nb', eo.up (Nat.add_le_add_right hb _), h⟩, e1.bk, e1.ct, e1.rt⟩, m⟩
theorem dss_cons (h1 : DS X W st m1 u1) (h2 : DSs X W rest m2 u2) : DSs X W (st :: rest) (mSeq m1 m2) (u1 + u2) := ⟨PSs.imp (pss_cons h1.ps h2.pss) seq_lift⟩
theorem dss_one (h1 : DS X W st m1 u) : DSs X W [st] m1 u := ⟨pss_one h1.ps⟩
/-- a ghost step: a list of one's own in slot i is fixed from here on -/
def mFrz (i : Nat) (m : MS) : MS := fun ex E δ => match δ[i]? with
  | some (some (.own xs)) => m ex E (δ.set i (some (.d (.list xs))))
  | some (some (.odk xs)) => m ex E (δ.set i (some (.d (.dict xs))))
  | _ => m ex E δ
theorem noBor_set {δ : Env} {i : Nat} {x : DV} (nb : NoBor δ) (hx : x.isBor = false) : NoBor (δ.set i (some x)) := fun j y e => by
  rcases get_set e with ⟨_, q, _⟩ | ⟨_, q⟩
  · cases q; exact hx
  · exact nb j y q
theorem frz_lift {i : Nat} (D : Ends) (σ : L2.St) (H : Hp) (q : liftS X.K X.mg W u (mFrz i m) D σ H) : liftS X.K X.mg W u m D σ H := by
  obtain ⟨ex, G, F, δ, τ, ts, E, n, nb, eo, mm⟩ := q
  unfold mFrz at mm
  split at mm
  · rename_i xs e
    have hi : i < δ.length := (List.getElem?_eq_some_iff.mp e).1
    obtain ⟨F', s, g⟩ := n.g0.freeze (n := i) (xs := xs) (by rw [List.getElem?_append_left hi]; exact e)
    rw [List.set_append_left _ _ hi] at g
    refine ⟨ex, G, F', _, τ, ts, E, ⟨n.k, by simpa using n.l1, n.l2, by simpa using g, n.link, n.ck⟩, ?_, eo, mm⟩
    rw [← List.set_append_left _ _ hi]
    exact noBor_set nb rfl
  · rename_i xs e
    have hi : i < δ.length := (List.getElem?_eq_some_iff.mp e).1
    obtain ⟨F', s, g⟩ := n.g0.freezeK (n := i) (xs := xs) (by rw [List.getElem?_append_left hi]; exact e)
    rw [List.set_append_left _ _ hi] at g
    refine ⟨ex, G, F', _, τ, ts, E, ⟨n.k, by simpa using n.l1, n.l2, by simpa using g, n.link, n.ck⟩, ?_, eo, mm⟩
    rw [← List.set_append_left _ _ hi]
    exact noBor_set nb rfl
  · exact ⟨ex, G, F, δ, τ, ts, E, n, nb, eo, mm⟩
theorem ds_frz (i : Nat) (h : DS X W st m u) : DS X W st (mFrz i m) u := ⟨PS.imp h.ps frz_lift⟩
theorem dss_frz (i : Nat) (h : DSs X W rest m u) : DSs X W rest (mFrz i m) u := ⟨PSs.imp h.pss frz_lift⟩
theorem ds_pass : DS X W (.Pass pos) mNext 0 := ⟨PS.imp ps_pass fun D σ H q => by
  obtain ⟨ex, G, F, δ, τ, ts, E, n, nb, eo, m⟩ := q
  exact eo.nx δ m 0 σ F H (Nat.le_refl _) n.l1 nb (n.g0.later 0)⟩
def mBreak : MS := fun _ E δ => E.bk δ
def mCont : MS := fun _ E δ => E.ct δ
theorem ds_break : DS X W (.Break pos) mBreak 0 := ⟨PS.imp ps_break fun D σ H q => by
  obtain ⟨ex, G, F, δ, τ, ts, E, n, nb, eo, m⟩ := q
  exact eo.bk δ m 0 σ F H (Nat.le_refl _) n.l1 nb (n.g0.later 0)⟩
theorem ds_cont : DS X W (.Continue pos) mCont 0 := ⟨PS.imp ps_continue fun D σ H q => by
  obtain ⟨ex, G, F, δ, τ, ts, E, n, nb, eo, m⟩ := q
  exact eo.ct δ m 0 σ F H (Nat.le_refl _) n.l1 nb (n.g0.later 0)⟩
theorem ds_doc {x j pos'} : DS X W (.Expr (.Constant (.str x) j pos) pos') mNext 0 := ⟨PS.imp ps_doc fun D σ H q => by
  obtain ⟨ex, G, F, δ, τ, ts, E, n, nb, eo, m⟩ := q
  exact eo.nx δ m 0 σ F H (Nat.le_refl _) n.l1 nb (n.g0.later 0)⟩
def mNever : MS := fun _ _ _ => False
theorem ds_never : DS X W st mNever 0 := ⟨PS.imp ps_never fun D σ H q => by
  obtain ⟨ex, G, F, δ, τ, ts, E, n, nb, eo, m⟩ := q
  exact m⟩
theorem dss_never : DSs X W rest mNever 0 := ⟨PSs.imp pss_never fun D σ H q => by
  obtain ⟨ex, G, F, δ, τ, ts, E, n, nb, eo, m⟩ := q
  exact m⟩
def mRet (me : ME) : MS := fun ex E δ => me ex δ fun r => E.rt r.fix
theorem ds_ret (h : DE X W e me u) : DS X W (.Return (some e) pos) (mRet me) u := ⟨PS.imp (ps_ret h.pe) fun D σ H q => by
  obtain ⟨ex, G, F, δ, τ, ts, E, n, nb, eo, m⟩ := q
  refine ⟨ex, G, F, δ, τ, ts, [], [], _, n, m, fun r hr v F' H' g => ?_⟩
  obtain ⟨F2, s2, g2⟩ := g.fixLast
  exact eo.rt _ hr (fix_arg r) u v F2 H' (Nat.le_refl _) g2⟩
def mRetN : MS := fun _ E _ => E.rt (.d .none)
theorem ds_retN : DS X W (.Return none pos) mRetN 0 := ⟨PS.imp ps_retN fun D σ H q => by
  obtain ⟨ex, G, F, δ, τ, ts, E, n, nb, eo, m⟩ := q
  have g : Good G F ([] : Env) ([] : L2.St) H := Good.cut (A := []) (A' := []) (B := δ ++ τ) (B' := σ ++ ts) n.g0.len n.g0
  exact eo.rt _ m rfl 0 .non F H (Nat.le_refl _) ((Good.pushD g .non).later 0)⟩
def mDrop (me : ME) : MS := fun ex E δ => me ex δ fun _ => E.nx δ
theorem ds_expr (h : DE X W e me u) (hs : swapsWith e none pos.line X.env = pure false := by rfl) : DS X W (.Expr e pos) (mDrop me) u := ⟨PS.imp (ps_expr h.pe hs) fun D σ H q => by
  obtain ⟨ex, G, F, δ, τ, ts, E, n, nb, eo, m⟩ := q
  refine ⟨ex, G, F, δ, τ, ts, [], [], _, n, m, fun r hr v F' H' g => ?_⟩
  have g' : Good (G.up u) F' (δ ++ τ) (σ ++ ts) H' := by
    have := g.pop
    simpa using this
  exact eo.nx δ hr u σ F' H' (Nat.le_refl _) n.l1 nb g'⟩
def mIfS (t : MT) (m1 m2 : MS) : MS := fun ex E δ => t ex δ fun c => (c = true → m1 ex E δ) ∧ (c = false → m2 ex E δ)
theorem ds_if {c : Expr} {p q : List Stmt} {t : MT} (hc : DT X W c t u1) (hp : DSs X W p m1 u2) (hq : DSs X W q m2 u3) : DS X W (.If c p q pos) (mIfS t m1 m2) (u1 + (u2 + u3)) := ⟨PS.imp (ps_if hc.pt hp.pss hq.pss) fun D σ H q => by
  obtain ⟨ex, G, F, δ, τ, ts, E, n, nb, eo, m⟩ := q
  refine ⟨ex, G, F, δ, τ, ts, [], [], _, n.fst, m, fun b hb F' H' g => ?_⟩
  have g' : Good (G.up u1) F' (δ ++ τ) (σ ++ ts) H' := by simpa using g
  show if b = true then liftS X.K X.mg W u2 m1 D σ H' else liftS X.K X.mg W u3 m2 D σ H'
  cases b with
  | true => rw [if_pos rfl]; exact ⟨ex, G.up u1, F', δ, τ, ts, E, n.to0 (by omega) n.l1 g', nb, eo.up (by omega), hb.1 rfl⟩
  | false => rw [if_neg Bool.false_ne_true]; exact ⟨ex, G.up u1, F', δ, τ, ts, E, n.to0 (by omega) n.l1 g', nb, eo.up (by omega), hb.2 rfl⟩⟩

/-! ### targets -/
variable {tg : Expr} {dom : List Nat} {mg : MG}
def gN (i : Nat) : MG := fun v δ R => v.isBor = false ∧ i < δ.length ∧ R (δ.set i (some v))
theorem dg_name {i : Nat} {x : Str} (hN : X.N.Nodup) (hi : X.N[i]? = some x) (hx : Loc X.env.scope x) (hf : X.fn x = true ∨ X.env.scope.names.lookup x = some .local := by first | exact .inl rfl | exact .inr rfl | assumption) : DG X (.Name x pos) [i] (gN i) :=
  ⟨PG.imp (pg_name hN hi hx hf) fun v σ H Q q => by
    obtain ⟨G, F, δ, τ, ts, r, R, kk, l1, l2, g, m, k⟩ := q
    obtain ⟨hb, hi, hR⟩ := m
    have g' := g.setTop (i := i) (by simp; omega)
    rw [List.set_append_left _ _ hi, List.set_append_left _ _ (by omega)] at g'
    exact k _ hR _ F H (by simp) (by simp) (fun j hj => List.getElem?_set_ne (fun z => hj (by simp [z]))) (fun nb => noBor_set nb hb) g'⟩
/-- several names, a tuple's items each -/
def gsN : List MG → List PyData → Env → (Env → Prop) → Prop
  | [], [], δ, R => R δ
  | g :: gs, d :: ds, δ, R => g (.d d) δ fun δ' => gsN gs ds δ' R
  | _, _, _, _ => False
def liftGs (K : PySem.W.Frag) (dom : List Nat) (gs : List MG) : TGs := fun vs σ H Q => ∃ (G : Gm) (F : Hp) (δ τ : Env) (ts : L2.St) (ds : List PyData) (R : Env → Prop), G.K = K ∧ δ.length = σ.length ∧ τ.length = ts.length ∧ Good G F (δ ++ τ) (σ ++ ts) H ∧ AtL G.K F vs ds ∧ gsN gs ds δ R ∧
  ∀ δ', R δ' → ∀ σ' F' H', δ'.length = δ.length → σ'.length = σ.length → (∀ j, j ∉ dom → σ'[j]? = σ[j]?) → (NoBor δ → NoBor δ') → Good G F' (δ' ++ τ) (σ' ++ ts) H' → Q σ' H'
structure DGs (X : Cx) (tgs : List Expr) (dom : List Nat) (gs : List MG) : Prop where
  pgs : PGs X tgs (liftGs X.K dom gs)
theorem PGs.imp {X : Cx} {e : List Expr} {t t' : TGs} (h : PGs X e t) (i : ∀ v σ H Q, t' v σ H Q → t v σ H Q) : PGs X e t' := ⟨fun pins s σ H v u Q I r q => h.run pins s σ H v u Q I r (i _ _ _ _ q)⟩
theorem Good.pushL {G : Gm} {F H : Hp} : ∀ {vs : List V} {ds : List PyData} {A : Env} {A' : L2.St}, AtL G.K F vs ds → Good G F A A' H → Good G F (A ++ ds.map fun d => some (DV.d d)) (A' ++ vs.map some) H
  | _, _, A, A', .nil, g => by simpa using g
  | _, _, A, A', .cons h t, g => by
    have := Good.pushL (A := A ++ [some (.d _)]) (A' := A' ++ [some _]) t (g.pushD h)
    simpa using this
theorem dgs_nil : DGs X [] [] [] := ⟨PGs.imp pgs_nil fun vs σ H Q q => by
  obtain ⟨G, F, δ, τ, ts, ds, R, kk, l1, l2, g, h, m, k⟩ := q
  cases h with
  | nil => exact ⟨rfl, k δ m σ F H rfl rfl (fun _ _ => rfl) id g⟩
  | cons _ _ => exact m.elim⟩
theorem dgs_cons {es : List Expr} {d1 d2 : List Nat} {gs : List MG} (h1 : DG X e d1 mg) (h2 : DGs X es d2 gs) (hs : (assignEach (e :: es) X.env).map (·.2) = assign e X.env :: (assignEach es X.env).map (·.2) := by rfl) : DGs X (e :: es) (d1 ++ d2) (mg :: gs) :=
  ⟨PGs.imp (pgs_cons h1.pg h2.pgs hs) fun vs σ H Q q => by
    obtain ⟨G, F, δ, τ, ts, ds, R, kk, l1, l2, g, h, m, k⟩ := q
    cases h with
    | nil => exact m.elim
    | @cons v vs d ds hv hr =>
      have hlen := hr.length
      refine ⟨v, vs, rfl, G, F, δ, τ ++ ds.map (fun d => some (DV.d d)), ts ++ vs.map some, .d d, _, kk, l1, by simp [l2, hlen], ?_, m, fun δ' hm σ' F' H' k1 k2 k3 k4 g' => ?_⟩
      · have := (Good.pushL hr g).pushD hv
        simpa only [List.append_assoc] using this
      · have g1 : Good G F' (δ' ++ τ ++ ds.map fun d => some (DV.d d)) (σ' ++ ts ++ vs.map some) H' := by simpa only [List.append_assoc] using g'
        refine ⟨G, F', δ', τ, ts, ds, R, kk, by omega, l2, g1.cut (by simp [hlen]), atL_of hlen.symm g1, hm, fun δ2 hR σ2 F2 H2 j1 j2 j3 j4 g2 => ?_⟩
        exact k δ2 hR σ2 F2 H2 (j1.trans k1) (j2.trans k2) (fun j hj => (j3 j fun z => hj (List.mem_append_right _ z)).trans (k3 j fun z => hj (List.mem_append_left _ z))) (fun nb => j4 (k4 nb)) g2⟩
def gT (gs : List MG) : MG := fun v δ R => match v with
  | .d (.tuple ds) => ds.length = gs.length ∧ gsN gs ds δ R
  | _ => False
theorem dg_tup {es : List Expr} {k : _} {gs : List MG} (hc : X.calm = true) (h : DGs X es dom gs) (hn : (assignEach es X.env).length = gs.length := by rfl) (hst : (assignEach es X.env).findIdx? (·.1) = none := by rfl) (hK : True := True.intro) :
    DG X (.Tuple es k pos) dom (gT gs) := ⟨PG.imp (pg_tup hc h.pgs hn hst) fun v σ H Q q => by
  obtain ⟨G, F, δ, τ, ts, r, R, kk, l1, l2, g, m, k⟩ := q
  have t := g.top
  match r, m, t with
  | .d (.tuple ds), m, t =>
    obtain ⟨hl, m⟩ := m
    cases t with
    | @tup a vs _ hs ha =>
      refine ⟨a, vs, rfl, sqT_mono g.fh (by rw [← kk]; exact hs), ha.length.trans hl, ?_⟩
      exact ⟨G, F, δ, τ, ts, ds, R, kk, l1, l2, g.pop, ha, m, k⟩⟩
/-- name = e, target = e -/
def mAsg (me : ME) (g : MG) : MS := fun ex E δ => me ex δ fun r => g r δ E.nx
theorem asg_lift (D : Ends) (σ : L2.St) (H : Hp) (q : liftS X.K X.mg W u (mAsg me mg) D σ H) : tAsg (liftE X.K X.mg W u me) (liftG X.K dom mg) D σ H := by
  obtain ⟨ex, G, F, δ, τ, ts, E, n, nb, eo, m⟩ := q
  refine ⟨ex, G, F, δ, τ, ts, [], [], _, n, m, fun r hr v F' H' g => ?_⟩
  have g' : Good (G.up u) F' (δ ++ τ ++ [some r]) (σ ++ ts ++ [some v]) H' := by simpa using g
  refine ⟨G.up u, F', δ, τ, ts, r, _, n.k, n.l1, n.l2, g', hr, fun δ' h σ' F2 H2 k1 k2 k3 k4 g2 => ?_⟩
  have nbδ : NoBor δ := fun i x e => nb i x (by rw [List.getElem?_append_left (List.getElem?_eq_some_iff.mp e).1]; exact e)
  refine eo.nx δ' h u σ' F2 H2 (Nat.le_refl _) (by have := n.l1; omega) (fun i x e => ?_) g2
  rcases Nat.lt_or_ge i δ'.length with hi | hi
  · rw [List.getElem?_append_left hi] at e
    exact k4 nbδ i x e
  · rw [List.getElem?_append_right hi] at e
    refine nb (δ.length + (i - δ'.length)) x ?_
    rw [List.getElem?_append_right (Nat.le_add_right _ _), Nat.add_sub_cancel_left]
    exact e
theorem ds_asg (he : DE X W e me u) (hg : DG X tg dom mg) (hs : swapsWithSole [tg] e pos.line X.env = pure false := by rfl) (hw : swappedStores [tg] e X.env = pure none := by rfl)
    (h1 : (assignEach [tg] X.env).map (·.2) = [assign tg X.env] := by rfl) : DS X W (.Assign [tg] e pos) (mAsg me mg) u := ⟨PS.imp (ps_asg he.pe hg.pg hs hw h1) asg_lift⟩
theorem set_lift {i : Nat} (D : Ends) (σ : L2.St) (H : Hp) (q : liftS X.K X.mg W u (mAsg me (gN i)) D σ H) : tAsg (liftE X.K X.mg W u me) (gName i) D σ H := by
  obtain ⟨ex, G, F, δ, τ, ts, E, n, nb, eo, m⟩ := q
  refine ⟨ex, G, F, δ, τ, ts, [], [], _, n, m, fun r hr v F' H' g => ?_⟩
  have g' : Good (G.up u) F' (δ ++ τ ++ [some r]) (σ ++ ts ++ [some v]) H' := by simpa using g
  obtain ⟨hb, hi, hR⟩ := hr
  have g2 := g'.setTop (i := i) (by simp; omega)
  have l1 := n.l1
  rw [List.set_append_left _ _ hi, List.set_append_left _ _ (by omega)] at g2
  refine eo.nx _ hR u _ F' H' (Nat.le_refl _) (by simpa using l1) ?_ g2
  rw [← List.set_append_left _ _ hi]
  exact noBor_set nb hb
theorem ds_set {i : Nat} {x : Str} {pos' : Pos} (hN : X.N.Nodup) (hi : X.N[i]? = some x) (hx : Loc X.env.scope x) (he : DE X W e me u) (hs : swapsWith e (some (.Name x pos')) pos.line X.env = pure false := by rfl) (hf : X.fn x = true ∨ X.env.scope.names.lookup x = some .local := by first | exact .inl rfl | exact .inr rfl | assumption) :
    DS X W (.Assign [.Name x pos'] e pos) (mAsg me (gN i)) u := ⟨PS.imp (ps_set hN hi hx he.pe hs hf) set_lift⟩
end
end DL

namespace DL
open PySem PySem.Spec L2

section
variable {u u1 u2 u3 ut ue : Nat} {X : Cx} {W : WC} {a b c e : Expr} {es : List Expr} {pos : Pos} {ma me : ME} {mas : MA} {mt : MT} {mg : MG} {dom : List Nat} {m m1 m2 : MS}

/-! ## while -/
def mWhile (t : MT) (b : MS) : MS := fun ex E δ => ∃ Wd : Nat → Env → Prop, (∃ n, Wd n δ) ∧ ∀ n δ, Wd n δ → t ex δ fun c =>
  (c = true → b ex { nx := fun δ' => ∃ k, k < n ∧ Wd k δ', ct := fun δ' => ∃ k, k < n ∧ Wd k δ', bk := E.nx, rt := E.rt } δ) ∧ (c = false → E.nx δ)
theorem ds_while {body : List Stmt} (hp : PassesOwn (model X.prog X.w) X.A X.env X.xe) (hc : DT X W c mt u1) (hb : DSs X W body m u2) (hu1 : u1 = 0 := by rfl) (hu2 : u2 = 0 := by rfl) : DS X W (.While c body [] pos) (mWhile mt m) 0 := ⟨PS.imp (ps_while hp hc.pt hb.pss) fun D σ H q => by
  obtain ⟨ex, G, F, δ, τ, ts, E, n, nb, eo, Wd, ⟨n0, w0⟩, turn⟩ := q
  subst hu1
  subst hu2
  refine ⟨fun k σ' H' => ∃ F' δ', Now X.K X.mg W 0 ex G F' δ' σ' τ ts [] [] H' ∧ NoBor (δ' ++ τ) ∧ Wd k δ', ⟨n0, F, δ, n, nb, w0⟩, ?_⟩
  rintro k σ1 H1 ⟨F1, δ1, n1, nb1, w1⟩
  refine ⟨ex, G, F1, δ1, τ, ts, [], [], _, n1, turn k δ1 w1, fun c hc F2 H2 g2 => ?_⟩
  have g2' : Good (G.up 0) F2 (δ1 ++ τ) (σ1 ++ ts) H2 := by simpa using g2
  cases c with
  | false =>
    show if false = true then _ else _
    rw [if_neg Bool.false_ne_true]
    exact eo.nx δ1 (hc.2 rfl) 0 σ1 F2 H2 (Nat.le_refl _) n1.l1 nb1 g2'
  | true =>
    show if true = true then _ else _
    rw [if_pos rfl]
    refine ⟨fun σ' H' => ∃ j, j < k ∧ ∃ F' δ', Now X.K X.mg W 0 ex G F' δ' σ' τ ts [] [] H' ∧ NoBor (δ' ++ τ) ∧ Wd j δ', fun σ' H' ⟨j, hj, h⟩ => ⟨j, hj, h⟩, ?_⟩
    have z0 : ∀ b : Nat, b ≤ 0 → b = 0 := fun b h => Nat.le_zero.mp h
    exact ⟨ex, G, F2, δ1, τ, ts, { nx := fun δ' => ∃ j, j < k ∧ Wd j δ', ct := fun δ' => ∃ j, j < k ∧ Wd j δ', bk := E.nx, rt := E.rt }, n1.to0 (b := 0) (Nat.le_refl _) n1.l1 g2', nb1,
      ⟨fun δ' ⟨j, hj, hw⟩ b σ' F' H' hb hl nb' g => ⟨j, hj, F', δ', n1.to0 (b := 0) (Nat.le_refl _) hl (by rw [z0 b hb] at g; exact g), nb', hw⟩, eo.nx, fun δ' ⟨j, hj, hw⟩ b σ' F' H' hb hl nb' g => ⟨j, hj, F', δ', n1.to0 (b := 0) (Nat.le_refl _) hl (by rw [z0 b hb] at g; exact g), nb', hw⟩, eo.rt⟩, hc.1 rfl⟩⟩

/-! ## what is walked -/
structure DIt where
  tmp : List DV
  items : List PyData
abbrev MI := XD → Env → (DIt → Prop) → Prop
def ItOk (G : Gm) (it : DIt) (ts : List V) (J : It) : Prop :=
  ∀ (b i : Nat) (F : Hp) (A B : Env) (A' B' : L2.St) (H : Hp), A.length = A'.length → B.length = B'.length → Good (G.up b) F (A ++ it.tmp.map some ++ B) (A' ++ ts.map some ++ B') H →
    (it.items.length ≤ i → J.stop i H) ∧ ∀ d, it.items[i]? = some d → J.go i H ∧ ∀ x H', J.yld i H x H' → ∃ F', Good (G.up b) F' (A ++ it.tmp.map some ++ B ++ [some (.d d)]) (A' ++ ts.map some ++ B' ++ [some x]) H'
def liftI (K : PySem.W.Frag) (mg : Str → Option Value) (W : WC) (u : Nat) (m : MI) : TI := fun σ H Q => ∃ (ex : XD) (G : Gm) (F : Hp) (δ τ : Env) (ts : L2.St) (τ1 : Env) (ts1 : L2.St) (R : DIt → Prop), Now K mg W u ex G F δ σ τ ts τ1 ts1 H ∧ m ex δ R ∧
  ∀ it, R it → ∀ (vs : List V) F' H' J, it.tmp.length = vs.length → Good (G.up u) F' (δ ++ τ ++ τ1 ++ it.tmp.map some) (σ ++ ts ++ ts1 ++ vs.map some) H' → ItOk G it vs J → Q J H'
structure DI (X : Cx) (W : WC) (tg e : Expr) (m : MI) (u : Nat) : Prop where
  pi : PI X tg e (liftI X.K X.mg W u m)
/-- a value that is a list or a tuple -/
def DV.seq : DV → Option (List PyData)
  | .d (.list xs) => some xs
  | .d (.tuple xs) => some xs
  | .own xs => some xs
  | .bor xs => some xs
  | _ => none
def DV.rd : DV → Option (List PyData)
  | .d (.list xs) => some xs
  | .own xs => some xs
  | .bor xs => some xs
  | .scr ns => some (ns.map .int)
  | _ => none
def DV.lst : DV → Option (List PyData)
  | .d (.list xs) => some xs
  | .own xs => some xs
  | .bor xs => some xs
  | _ => none
theorem lst_of {G : Gm} {F H : Hp} {v : V} {x : DV} {xs : List PyData} (h : VOk G F H v x) (hf : Same F H) (e : x.lst = some xs) : ∃ l vs, v = .ref l ∧ H l = some (.lst vs) ∧ AtL G.K F vs xs := by
  match x, e, h with
  | .d (.list ys), e, h =>
    cases e
    cases h with
    | lst hs ha => exact ⟨_, _, rfl, hf _ _ hs, ha⟩
  | .own ys, e, h =>
    cases e
    obtain ⟨l, vs, rfl, h1, h2, _⟩ := h
    exact ⟨l, vs, rfl, h1, h2⟩
  | .bor ys, e, h =>
    cases e
    obtain ⟨l, vs, rfl, h1, h2, _⟩ := h
    exact ⟨l, vs, rfl, h1, h2⟩
theorem rd_of {G : Gm} {F H : Hp} {v : V} {x : DV} {xs : List PyData} (h : VOk G F H v x) (hf : Same F H) (e : x.rd = some xs) : ∃ l vs, v = .ref l ∧ SqL G.K H l vs ∧ AtL G.K F vs xs := by
  match x, e, h with
  | .d (.list ys), e, h =>
    cases e
    cases h with
    | lst hs ha => exact ⟨_, _, rfl, SqL.of (hf _ _ hs), ha⟩
  | .own ys, e, h =>
    cases e
    obtain ⟨l, vs, rfl, h1, h2, _⟩ := h
    exact ⟨l, vs, rfl, SqL.of h1, h2⟩
  | .bor ys, e, h =>
    cases e
    obtain ⟨l, vs, rfl, h1, h2, _⟩ := h
    exact ⟨l, vs, rfl, SqL.of h1, h2⟩
  | .scr ns, e, h =>
    cases e
    obtain ⟨l, rfl, h1⟩ := h
    exact ⟨l, _, rfl, sqL_mono hf h1, atL_ints ns⟩
theorem tup_of {G : Gm} {F H : Hp} {v : V} {xs : List PyData} (h : VOk G F H v (.d (.tuple xs))) (hf : Same F H) : ∃ l vs, v = .ref l ∧ SqT G.K H l vs ∧ AtL G.K F vs xs := by
  cases (show At G.K F v (.tuple xs) from h) with
  | tup hs ha => exact ⟨_, _, rfl, sqT_mono hf hs, ha⟩
theorem sqL_inj {K : PySem.W.Frag} {H : Hp} {a : Addr} {xs ys : List V} (h : SqL K H a xs) (h' : SqL K H a ys) : ∀ {X : Cx} {pins σ s}, X.K = K → Inv X pins σ H s → xs = ys := fun e I => by
  subst e; exact I.list_inj h h'
/-- a list -/
def mIL (me : ME) : MI := fun ex δ R => me ex δ fun x => match x.rd with
  | some xs => R ⟨[x], xs⟩
  | none => False
theorem sub1 {G : Gm} {F H : Hp} {A : Env} {A' : L2.St} {x : DV} {v : V} (g : Good G F (A ++ [x].map some) (A' ++ [v].map some) H) : VOk G F H v x := Good.top (by simpa using g)
theorem di_list {tg : Expr} (h : DE X W e me u) : DI X W tg e (mIL me) u := ⟨PI.imp (pi_list h.pe) fun σ H Q q => by
  obtain ⟨ex, G, F, δ, τ, ts, τ1, ts1, R, n, m, k⟩ := q
  refine ⟨ex, G, F, δ, τ, ts, τ1, ts1, _, n, m, fun x hx v F1 H1 g1 => ?_⟩
  split at hx
  · rename_i xs e
    obtain ⟨l, vs, rfl, hs, ha⟩ := rd_of g1.top g1.fh e
    rw [n.k] at hs
    refine ⟨l, rfl, ⟨vs, hs⟩, k _ hx [.ref l] F1 H1 _ rfl (by simpa using g1) fun b i F2 A B A' B' H2 hA hB g2 => ?_⟩
    have ht := sub1 (g2.cut hB)
    obtain ⟨l', vs', e1, hs0, ha'⟩ := rd_of ht g2.fh e
    cases e1
    have hs' : SqL X.K H2 l vs' := by rw [← n.k]; exact hs0
    refine ⟨fun hi => ⟨vs', hs', by rw [ha'.length]; exact hi⟩, fun d hd => ?_⟩
    obtain ⟨w, ew, hw⟩ := ha'.get hd
    refine ⟨⟨vs', w, hs', ew⟩, fun y H3 hy => ?_⟩
    obtain ⟨rfl, hy⟩ := hy
    have := hy vs' hs'
    rw [ew] at this
    cases this
    exact ⟨F2, by simpa only [List.append_assoc] using g2.pushD hw⟩
  · exact hx.elim⟩
/-- a tuple -/
def mIT (me : ME) : MI := fun ex δ R => me ex δ fun x => match x with
  | .d (.tuple xs) => R ⟨[x], xs⟩
  | _ => False
theorem di_tup {tg : Expr} (h : DE X W e me u) : DI X W tg e (mIT me) u := ⟨PI.imp (pi_tup h.pe) fun σ H Q q => by
  obtain ⟨ex, G, F, δ, τ, ts, τ1, ts1, R, n, m, k⟩ := q
  refine ⟨ex, G, F, δ, τ, ts, τ1, ts1, _, n, m, fun x hx v F1 H1 g1 => ?_⟩
  match x, hx, g1 with
  | .d (.tuple xs), hx, g1 =>
    obtain ⟨l, vs, rfl, hs, ha⟩ := tup_of g1.top g1.fh
    refine ⟨l, rfl, ⟨vs, by rw [← n.k]; exact hs⟩, k _ hx [.ref l] F1 H1 _ rfl (by simpa using g1) fun b i F2 A B A' B' H2 hA hB g2 => ?_⟩
    have ht := sub1 (g2.cut hB)
    obtain ⟨l', vs', e1, hs', ha'⟩ := tup_of ht g2.fh
    cases e1
    rw [n.k] at hs'
    refine ⟨fun hi => ⟨vs', hs', by rw [ha'.length]; exact hi⟩, fun d hd => ?_⟩
    obtain ⟨w, ew, hw⟩ := ha'.get hd
    refine ⟨⟨vs', w, hs', ew⟩, fun y H3 hy => ?_⟩
    obtain ⟨rfl, hy⟩ := hy
    have := hy vs' hs'
    rw [ew] at this
    cases this
    exact ⟨F2, by simpa only [List.append_assoc] using g2.pushD hw⟩⟩
/-- range(lo, hi) as the ints -/
def rangeD (lo : Int) (n : Nat) : List PyData := (List.range n).map fun i => .int (lo + (i : Nat))
theorem rangeD_get {lo : Int} {n i : Nat} : (rangeD lo n)[i]? = if i < n then some (.int (lo + (i : Nat))) else none := by
  unfold rangeD
  rw [List.getElem?_map]
  by_cases h : i < n
  · rw [List.getElem?_range h, if_pos h]; rfl
  · rw [List.getElem?_eq_none (by simpa using h), if_neg h]; rfl
theorem rangeD_len {lo : Int} {n : Nat} : (rangeD lo n).length = n := by unfold rangeD; simp
theorem itr_ok (G : Gm) (lo : Int) (n : Nat) : ItOk G ⟨[], rangeD lo n⟩ [] (Itr lo n) := fun b i F A B A' B' H hA hB g => by
  refine ⟨fun h => by rw [rangeD_len] at h; exact h, fun d hd => ?_⟩
  rw [rangeD_get] at hd
  split at hd
  · rename_i hi
    cases hd
    refine ⟨hi, fun y H3 hy => ?_⟩
    obtain ⟨rfl, rfl⟩ := hy
    exact ⟨F, g.pushD (.int _)⟩
  · cases hd
def mR1 (t : MA) : MI := fun ex δ R => t ex δ fun xs => match xs with
  | [.d (.int j)] => -(2 ^ 62) ≤ j ∧ j < 2 ^ 62 ∧ R ⟨[], rangeD 0 j.toNat⟩
  | _ => False
def mR2 (t : MA) : MI := fun ex δ R => t ex δ fun xs => match xs with
  | [.d (.int i), .d (.int j)] => (-(2 ^ 62) ≤ i ∧ i < 2 ^ 62 ∧ -(2 ^ 62) ≤ j ∧ j < 2 ^ 62) ∧ R ⟨[], rangeD i (j - i).toNat⟩
  | _ => False
theorem int_of {G : Gm} {F H : Hp} {v : V} {i : Int} (h : VOk G F H v (.d (.int i))) : v = .int i := by
  cases (show At G.K F v (.int i) from h); rfl
theorem one_of {G : Gm} {F H : Hp} {A : Env} {A' : L2.St} {x : DV} {vs : List V} (hl : [x].length = vs.length) (g : Good G F (A ++ [x].map some) (A' ++ vs.map some) H) : ∃ v, vs = [v] ∧ VOk G F H v x ∧ Good G F A A' H := by
  match vs, hl with
  | [v], _ => exact ⟨v, rfl, sub1 g, Good.pop (x := some x) (y := some v) (by simpa using g)⟩
theorem two_of {G : Gm} {F H : Hp} {A : Env} {A' : L2.St} {x y : DV} {vs : List V} (hl : [x, y].length = vs.length) (g : Good G F (A ++ [x, y].map some) (A' ++ vs.map some) H) : ∃ v u, vs = [v, u] ∧ VOk G F H v x ∧ VOk G F H u y ∧ Good G F A A' H := by
  match vs, hl with
  | [v, u], _ =>
    have g' : Good G F (A ++ [some x] ++ [some y]) (A' ++ [some v] ++ [some u]) H := by simpa using g
    exact ⟨v, u, rfl, g'.pop.top, g'.top, g'.pop.pop⟩
theorem three_of {G : Gm} {F H : Hp} {A : Env} {A' : L2.St} {x y z : DV} {vs : List V} (hl : [x, y, z].length = vs.length) (g : Good G F (A ++ [x, y, z].map some) (A' ++ vs.map some) H) : ∃ v u w, vs = [v, u, w] ∧ VOk G F H v x ∧ VOk G F H u y ∧ VOk G F H w z ∧ Good G F A A' H := by
  match vs, hl with
  | [v, u, w], _ =>
    have g' : Good G F (A ++ [some x] ++ [some y] ++ [some z]) (A' ++ [some v] ++ [some u] ++ [some w]) H := by simpa using g
    exact ⟨v, u, w, rfl, g'.pop.pop.top, g'.pop.top, g'.top, g'.pop.pop.pop⟩
theorem di_range1 {tg : Expr} {p : Pos} (hg : Gl X "range") (hm : X.mg "range" = none) (ha : DA X W [a] mas u) (hs : starEach [a] X.env = [(false, eval a X.env)] := by rfl) : DI X W tg (.Call (.Name "range" p) [a] [] pos) (mR1 mas) u :=
  ⟨PI.imp (pi_range1 hg hm ha.pa hs) fun σ H Q q => by
    obtain ⟨ex, G, F, δ, τ, ts, τ1, ts1, R, n, m, k⟩ := q
    refine ⟨ex, G, F, δ, τ, ts, τ1, ts1, _, n, m, fun xs hxs vs F1 H1 hl g1 => ?_⟩
    match xs, hxs, hl, g1 with
    | [.d (.int j)], hxs, hl, g1 =>
      obtain ⟨h1, h2, hR⟩ := hxs
      obtain ⟨v, rfl, hv, g⟩ := one_of hl g1
      cases int_of hv
      exact ⟨j, rfl, h1, h2, k _ hR [] F1 H1 _ rfl (by simpa using g) (itr_ok _ 0 j.toNat)⟩⟩
theorem di_range2 {tg : Expr} {p : Pos} (hg : Gl X "range") (hm : X.mg "range" = none) (ha : DA X W [a, b] mas u) (hs : starEach [a, b] X.env = [(false, eval a X.env), (false, eval b X.env)] := by rfl) (hs2 : starEach [b] X.env = [(false, eval b X.env)] := by rfl) :
    DI X W tg (.Call (.Name "range" p) [a, b] [] pos) (mR2 mas) u :=
  ⟨PI.imp (pi_range2 hg hm ha.pa hs hs2) fun σ H Q q => by
    obtain ⟨ex, G, F, δ, τ, ts, τ1, ts1, R, n, m, k⟩ := q
    refine ⟨ex, G, F, δ, τ, ts, τ1, ts1, _, n, m, fun xs hxs vs F1 H1 hl g1 => ?_⟩
    match xs, hxs, hl, g1 with
    | [.d (.int i), .d (.int j)], hxs, hl, g1 =>
      obtain ⟨h1, hR⟩ := hxs
      obtain ⟨v, u, rfl, hv, hu, g⟩ := two_of hl g1
      cases int_of hv
      cases int_of hu
      exact ⟨i, j, rfl, h1, k _ hR [] F1 H1 _ rfl (by simpa using g) (itr_ok _ i (j - i).toNat)⟩⟩

/-! ## for -/
def forRun (g : MG) (b : MS) (ex : XD) (E : DEnds) : List PyData → Env → Prop
  | [], δ => E.nx δ
  | d :: ds, δ => g (.d d) δ fun δ' => b ex { nx := forRun g b ex E ds, ct := forRun g b ex E ds, bk := E.nx, rt := E.rt } δ'
def mFor (mi : MI) (g : MG) (b : MS) : MS := fun ex E δ => mi ex δ fun it => (∀ x ∈ it.tmp, x.isBor = false) ∧ forRun g b ex E it.items δ
theorem drop_cons {α : Type} : ∀ {l : List α} {i : Nat} {x : α}, l[i]? = some x → l.drop i = x :: l.drop (i + 1)
  | [], i, x, h => by simp at h
  | a :: l, 0, x, h => by
    simp at h
    subst h
    rfl
  | a :: l, i + 1, x, h => by
    simp only [List.drop_succ_cons]
    exact drop_cons (by simpa using h)
theorem nb_app {A B C : Env} (h : NoBor (A ++ B)) (hc : NoBor C) : NoBor (A ++ (B ++ C)) := fun i x e => by
  rw [← List.append_assoc] at e
  rcases Nat.lt_or_ge i (A ++ B).length with q | q
  · rw [List.getElem?_append_left q] at e
    exact h i x e
  · rw [List.getElem?_append_right q] at e
    exact hc _ x e
theorem nb_left {A B : Env} (h : NoBor (A ++ B)) : NoBor A := fun i x e => h i x (by rw [List.getElem?_append_left (List.getElem?_eq_some_iff.mp e).1]; exact e)
theorem nb_right {A B : Env} (h : NoBor (A ++ B)) : NoBor B := fun i x e => h (A.length + i) x (by rw [List.getElem?_append_right (Nat.le_add_right _ _), Nat.add_sub_cancel_left]; exact e)
theorem nb_mk {A B : Env} (h : NoBor A) (h2 : NoBor B) : NoBor (A ++ B) := fun i x e => by
  rcases Nat.lt_or_ge i A.length with q | q
  · rw [List.getElem?_append_left q] at e
    exact h i x e
  · rw [List.getElem?_append_right q] at e
    exact h2 _ x e
def mForN (N : Nat) (mi : MI) (g : MG) (b : MS) : MS := fun ex E δ => mi ex δ fun it => it.items.length ≤ N ∧ (∀ x ∈ it.tmp, x.isBor = false) ∧ forRun g b ex E it.items δ
theorem for_lift {mi : MI} {D : Ends} {σ : L2.St} {H : Hp} {ex : XD} {G : Gm} {F : Hp} {δ τ : Env} {ts : L2.St} {E : DEnds} {S : DIt → Prop} (n : Now X.K X.mg W (u1 + u3) ex G F δ σ τ ts [] [] H) (nb : NoBor (δ ++ τ)) (eo : EndsOk G (u1 + u3) τ ts E D) (mm : mi ex δ S)
    (hS : ∀ it, S it → it.items.length * u2 ≤ u3 ∧ (∀ x ∈ it.tmp, x.isBor = false) ∧ forRun mg m ex E it.items δ) : tFor (liftI X.K X.mg W u1 mi) (liftG X.K dom mg) (liftS X.K X.mg W u2 m) D σ H := by
  refine ⟨ex, G, F, δ, τ, ts, [], [], _, n.fst, mm, fun it hit vs F1 H1 J hl g1 ok => ?_⟩
  obtain ⟨hlen, htb, hrun⟩ := hS it hit
  have hT : NoBor (it.tmp.map some) := fun i x e => by
    rw [List.getElem?_map] at e
    cases q : it.tmp[i]? with
    | none => rw [q] at e; cases e
    | some y =>
      rw [q] at e
      cases e
      exact htb _ (List.mem_of_getElem? q)
  have hlT : (it.tmp.map some).length = (vs.map some).length := by simpa using hl
  have room : ∀ {i : Nat}, i < it.items.length → u1 + i * u2 + u2 ≤ u1 + u3 := fun {i} h => by
    have h1 : (i + 1) * u2 ≤ it.items.length * u2 := Nat.mul_le_mul_right _ h
    rw [Nat.succ_mul] at h1
    omega
  have more : ∀ (i : Nat), (i + 1) * u2 = i * u2 + u2 := fun i => Nat.succ_mul i u2
  have lk : ∀ {i : Nat}, i < it.items.length → Link X.K X.mg W u2 (G.up (u1 + i * u2)) (τ ++ it.tmp.map some) (ts ++ vs.map some) ex := fun {i} hi b F δ σ H τ1 ts1 e cls d hb h1 h2 h3 h4 =>
    n.link (u1 + i * u2 + b) F δ σ H (it.tmp.map some ++ τ1) (vs.map some ++ ts1) e cls d (by have := room hi; omega) h1 (by rw [← up_up]; simpa only [List.append_assoc] using h2) h3 h4
  refine ⟨fun i k σ' H' => k = it.items.length - i ∧ i ≤ it.items.length ∧ ∃ F' δ', δ'.length = σ'.length ∧ Good (G.up (u1 + i * u2)) F' (δ' ++ (τ ++ it.tmp.map some)) (σ' ++ (ts ++ vs.map some)) H' ∧ NoBor (δ' ++ τ) ∧ forRun mg m ex E (it.items.drop i) δ',
    ⟨it.items.length, by simp, Nat.zero_le _, F1, δ, n.l1, by rw [Nat.zero_mul]; simpa using g1, nb, by simpa using hrun⟩, ?_⟩
  rintro i k σ2 H2 ⟨rfl, hi, F2, δ2, l2, g2, nb2, r2⟩
  have g2' : Good (G.up (u1 + i * u2)) F2 (δ2 ++ τ ++ it.tmp.map some) (σ2 ++ ts ++ vs.map some) H2 := by simpa only [List.append_assoc] using g2
  have hA : (δ2 ++ τ).length = (σ2 ++ ts).length := by simp [l2, n.l2]
  obtain ⟨o1, o2⟩ := ok (u1 + i * u2) i F2 _ [] _ [] H2 hA rfl (by simpa using g2')
  cases hd : it.items[i]? with
  | none =>
    have hi2 : it.items.length ≤ i := List.getElem?_eq_none_iff.mp hd
    rw [List.drop_eq_nil_of_le hi2] at r2
    have le1 : u1 + i * u2 ≤ u1 + u3 := by
      have := Nat.mul_le_mul_right u2 hi
      omega
    exact .inl ⟨o1 hi2, eo.nx δ2 r2 _ σ2 F2 H2 le1 l2 nb2 (g2'.cut hlT)⟩
  | some d =>
    have hi2 : i < it.items.length := (List.getElem?_eq_some_iff.mp hd).1
    obtain ⟨go, yl⟩ := o2 d hd
    rw [drop_cons hd] at r2
    have end' : ∀ δ3, forRun mg m ex E (it.items.drop (i + 1)) δ3 → ∀ σ3 F3 H3, δ3.length = σ3.length → NoBor (δ3 ++ (τ ++ it.tmp.map some)) → Good (G.up (u1 + (i + 1) * u2)) F3 (δ3 ++ (τ ++ it.tmp.map some)) (σ3 ++ (ts ++ vs.map some)) H3 →
        ∃ k', k' < it.items.length - i ∧ (k' = it.items.length - (i + 1) ∧ i + 1 ≤ it.items.length ∧ ∃ F' δ', δ'.length = σ3.length ∧ Good (G.up (u1 + (i + 1) * u2)) F' (δ' ++ (τ ++ it.tmp.map some)) (σ3 ++ (ts ++ vs.map some)) H3 ∧ NoBor (δ' ++ τ) ∧ forRun mg m ex E (it.items.drop (i + 1)) δ') :=
      fun δ3 h3 σ3 F3 H3 l3 nb3 g3 => ⟨_, by omega, rfl, hi2, F3, δ3, l3, g3, nb_left (B := it.tmp.map some) (by simpa only [List.append_assoc] using nb3), h3⟩
    refine .inr ⟨go, fun σ' H' => ∃ F' δ', δ'.length = σ'.length ∧ Good (G.up (u1 + (i + 1) * u2)) F' (δ' ++ (τ ++ it.tmp.map some)) (σ' ++ (ts ++ vs.map some)) H' ∧ NoBor (δ' ++ τ) ∧ forRun mg m ex E (it.items.drop (i + 1)) δ',
      fun σ' H' h => ⟨_, by omega, rfl, hi2, h⟩, fun x H3 hy => ?_⟩
    obtain ⟨F3, g3⟩ := yl x H3 hy
    rw [List.append_nil, List.append_nil] at g3
    have rm := room hi2
    refine ⟨G.up (u1 + i * u2), F3, δ2, τ ++ it.tmp.map some, ts ++ vs.map some, .d d, _, n.k, l2, by simp [n.l2, hl], by simpa only [List.append_assoc] using g3, r2, fun δ3 h3 σ3 F4 H4 k1 k2 k3 k4 g4 => ?_⟩
    have l3 : δ3.length = σ3.length := by omega
    have nb3 : NoBor (δ3 ++ (τ ++ it.tmp.map some)) := nb_app (nb_mk (k4 (nb_left nb2)) (nb_right nb)) hT
    refine ⟨ex, G.up (u1 + i * u2), F4, δ3, τ ++ it.tmp.map some, ts ++ vs.map some, { nx := forRun mg m ex E (it.items.drop (i + 1)), ct := forRun mg m ex E (it.items.drop (i + 1)), bk := E.nx, rt := E.rt }, ⟨n.k, l3, by simp [n.l2, hl], by simpa using g4, lk hi2, n.ck.1, by have := n.ck.2; show G.n + (u1 + i * u2) + u2 ≤ G.lim; omega⟩, nb3, ⟨?_, ?_, ?_, fun r h ha b v F H hb g => eo.rt r h ha (u1 + i * u2 + b) v F H (by omega) (by rw [← up_up]; exact g)⟩, h3⟩
    · exact fun δ5 h5 b σ5 F5 H5 hb l5 nb5 g5 => ⟨F5, δ5, l5, by rw [up_up] at g5; exact g5.mono (by have := more i; omega), nb_left (B := it.tmp.map some) (by simpa only [List.append_assoc] using nb5), h5⟩
    · refine fun δ5 h5 b σ5 F5 H5 hb l5 nb5 g5 => eo.nx δ5 h5 (u1 + i * u2 + b) σ5 F5 H5 (by omega) l5 (nb_left (B := it.tmp.map some) (by simpa only [List.append_assoc] using nb5)) ?_
      exact Good.cut hlT (by rw [up_up] at g5; simpa only [List.append_assoc] using g5)
    · exact fun δ5 h5 b σ5 F5 H5 hb l5 nb5 g5 => ⟨F5, δ5, l5, by rw [up_up] at g5; exact g5.mono (by have := more i; omega), nb_left (B := it.tmp.map some) (by simpa only [List.append_assoc] using nb5), h5⟩
theorem ds_for {tg : Expr} {body : List Stmt} {mi : MI} (hp : PassesOwn (model X.prog X.w) X.A X.env X.xe) (hc : X.calm = true) (hi : DI X W tg e mi u1) (hg : DG X tg dom mg) (hb : DSs X W body m u2) (hu : u2 = 0 := by rfl)
    (hs : ∀ x, foldedSetIterable e X.env x = pure x := by intro _; rfl) : DS X W (.For tg e body [] pos) (mFor mi mg m) u1 := ⟨PS.imp (ps_for hp hc hi.pi hg.pg hb.pss hs) fun D σ H q => by
  obtain ⟨ex, G, F, δ, τ, ts, E, n, nb, eo, mm⟩ := q
  exact for_lift (u1 := u1) (u3 := 0) (S := _) n nb eo mm fun it h => ⟨by rw [hu, Nat.mul_zero]; exact Nat.le_refl _, h.1, h.2⟩⟩
theorem ds_forN (N : Nat) {tg : Expr} {body : List Stmt} {mi : MI} (hp : PassesOwn (model X.prog X.w) X.A X.env X.xe) (hc : X.calm = true) (hi : DI X W tg e mi u1) (hg : DG X tg dom mg) (hb : DSs X W body m u2)
    (hs : ∀ x, foldedSetIterable e X.env x = pure x := by intro _; rfl) : DS X W (.For tg e body [] pos) (mForN N mi mg m) (u1 + N * u2) := ⟨PS.imp (ps_for hp hc hi.pi hg.pg hb.pss hs) fun D σ H q => by
  obtain ⟨ex, G, F, δ, τ, ts, E, n, nb, eo, mm⟩ := q
  exact for_lift (u1 := u1) (u3 := N * u2) (S := _) n nb eo mm fun it h => ⟨Nat.mul_le_mul_right _ h.1, h.2.1, h.2.2⟩⟩

/-! ## comprehensions -/
structure DTs (X : Cx) (W : WC) (ifs : List Expr) (m : MT) (u : Nat) : Prop where
  pts : PTs X ifs (liftT X.K X.mg W u m)
def mYes : MT := fun _ _ R => R true
theorem PTs.imp {X : Cx} {e : List Expr} {t t' : TT} (h : PTs X e t) (i : ∀ σ H Q, t' σ H Q → t σ H Q) : PTs X e t' := ⟨fun pins s σ H Q I q => h.run pins s σ H Q I (i _ _ _ q)⟩
theorem dts_nil : DTs X W [] mYes 0 := ⟨PTs.imp pts_nil fun σ H Q q => by
  obtain ⟨ex, G, F, δ, τ, ts, τ1, ts1, R, n, m, k⟩ := q
  exact k _ m F H (n.good.later 0)⟩
theorem dts_one (h : DT X W c mt u) : DTs X W [c] mt u := ⟨pts_one h.pt⟩
def wipeD (δ : Env) : List Nat → Env
  | [] => δ
  | v :: vs => (wipeD δ vs).set v none
theorem wipeD_len (δ : Env) : ∀ vs, (wipeD δ vs).length = δ.length
  | [] => rfl
  | v :: vs => by unfold wipeD; rw [List.length_set, wipeD_len δ vs]
theorem wipeD_some {δ : Env} {i : Nat} {x : DV} : ∀ {vs : List Nat}, (wipeD δ vs)[i]? = some (some x) → δ[i]? = some (some x) ∧ i ∉ vs
  | [], h => ⟨h, by simp⟩
  | v :: vs, h => by
    unfold wipeD at h
    rcases get_set h with ⟨_, q, _⟩ | ⟨h1, h2⟩
    · cases q
    · obtain ⟨h3, h4⟩ := wipeD_some h2
      exact ⟨h3, by simp only [List.mem_cons, not_or]; exact ⟨h1, h4⟩⟩
def seenD (δ : Env) : Env := δ.map (Option.map DV.seen)
theorem seenD_some {δ : Env} {i : Nat} {x : DV} (e : (seenD δ)[i]? = some (some x)) : ∃ y, δ[i]? = some (some y) ∧ x = y.seen := by
  unfold seenD at e
  rw [List.getElem?_map] at e
  cases q : δ[i]? with
  | none => rw [q] at e; cases e
  | some o =>
    rw [q] at e
    cases o with
    | none => simp at e
    | some y =>
      simp at e
      exact ⟨y, rfl, e.symm⟩
theorem Good.tail {G : Gm} {F H : Hp} {P A : Env} {P' A' : L2.St} (hl : P.length = P'.length) (g : Good G F (P ++ A) (P' ++ A') H) : Good G F A A' H := by
  have up : ∀ {α : Type} {P A : List α} {i : Nat}, (P ++ A)[P.length + i]? = A[i]? := fun {α P A i} => by
    rw [List.getElem?_append_right (Nat.le_add_right _ _), Nat.add_sub_cancel_left]
  refine ⟨g.g, by have := g.len; simp [hl] at this; exact this, g.f0, g.fh, g.fr, g.bh, g.cf, g.jh, fun i x e => ?_, fun i j x y l hx hy e1 e2 e3 e4 => ?_⟩
  · obtain ⟨v, h1, h2⟩ := g.sl (P.length + i) x (by rw [up]; exact e)
    rw [hl, up] at h1
    exact ⟨v, h1, h2⟩
  · have := g.di (P.length + i) (P.length + j) x y l hx hy (by rw [up]; exact e1) (by rw [up]; exact e2) (by rw [hl, up]; exact e3) (by rw [hl, up]; exact e4)
    omega
theorem Good.dup {G : Gm} {F H : Hp} {δ A : Env} {σ A' : L2.St} (hl : δ.length = σ.length) (vs : List Nat) (g : Good G F (δ ++ A) (σ ++ A') H) : Good G F (wipeD (seenD δ) vs ++ (δ ++ A)) (wipe σ vs ++ (σ ++ A')) H := by
  have lw : (wipeD (seenD δ) vs).length = δ.length := by rw [wipeD_len]; simp [seenD]
  have lw' : (wipe σ vs).length = δ.length := by rw [wipe_length, hl]
  have cut : ∀ {i : Nat} {x : DV}, (wipeD (seenD δ) vs ++ (δ ++ A))[i]? = some (some x) → (i < δ.length ∧ ∃ y, δ[i]? = some (some y) ∧ x = y.seen ∧ (wipe σ vs ++ (σ ++ A'))[i]? = σ[i]?) ∨ (δ.length ≤ i ∧ (δ ++ A)[i - δ.length]? = some (some x) ∧ (wipe σ vs ++ (σ ++ A'))[i]? = (σ ++ A')[i - δ.length]?) := fun {i x} e => by
    rcases Nat.lt_or_ge i δ.length with q | q
    · rw [List.getElem?_append_left (by omega)] at e
      obtain ⟨e1, e2⟩ := wipeD_some e
      obtain ⟨y, e3, e4⟩ := seenD_some e1
      refine .inl ⟨q, y, e3, e4, ?_⟩
      rw [List.getElem?_append_left (by omega)]
      exact wipe_out e2
    · rw [List.getElem?_append_right (by omega), lw] at e
      refine .inr ⟨q, e, ?_⟩
      rw [List.getElem?_append_right (by omega), lw']
  refine ⟨g.g, ?_, g.f0, g.fh, g.fr, g.bh, g.cf, g.jh, fun i x e => ?_, fun i j x y l hx hy e1 e2 e3 e4 => ?_⟩
  · have := g.len
    simp only [List.length_append] at this ⊢
    omega
  · rcases cut e with ⟨q, y, e1, rfl, e2⟩ | ⟨q, e1, e2⟩
    · obtain ⟨v, h1, h2⟩ := g.sl i y (by rw [List.getElem?_append_left q]; exact e1)
      rw [List.getElem?_append_left (by omega)] at h1
      exact ⟨v, by rw [e2]; exact h1, seen_ok h2⟩
    · obtain ⟨v, h1, h2⟩ := g.sl _ x e1
      exact ⟨v, by rw [e2]; exact h1, h2⟩
  · rcases cut e1 with ⟨q, z, _, rfl, _⟩ | ⟨q, f1, f2⟩
    · rw [seen_own] at hx; cases hx
    · rcases cut e2 with ⟨q', z, _, rfl, _⟩ | ⟨q', f3, f4⟩
      · rw [seen_own] at hy; cases hy
      · rw [f2] at e3
        rw [f4] at e4
        have := g.di _ _ x y l hx hy f1 f3 e3 e4
        omega
theorem wipe_get {σ : L2.St} {i : Nat} : ∀ {vs : List Nat}, i ∈ vs → i < σ.length → (wipe σ vs)[i]? = some none
  | v :: vs, h, hi => by
    unfold wipe
    by_cases q : v = i
    · subst q
      rw [List.getElem?_set_self (by rw [wipe_length]; exact hi)]
    · rw [List.getElem?_set_ne q]
      exact wipe_get ((List.mem_cons.mp h).resolve_left fun z => q z.symm) hi
theorem wipe_same {σ σ' : L2.St} {vs dom : List Nat} (hl : σ'.length = (wipe σ vs).length) (hd : ∀ j ∈ dom, j ∈ vs) (h : ∀ j, j ∉ dom → σ'[j]? = (wipe σ vs)[j]?) : wipe σ' vs = wipe σ vs := by
  apply List.ext_getElem?
  intro i
  rw [wipe_length] at hl
  by_cases hi : i ∈ vs
  · by_cases hb : i < σ.length
    · rw [wipe_get hi (by omega), wipe_get hi hb]
    · rw [List.getElem?_eq_none (by rw [wipe_length]; omega), List.getElem?_eq_none (by rw [wipe_length]; omega)]
  · rw [wipe_out hi]
    exact h i fun z => hi (hd i z)
abbrev ex0 : XD := fun _ _ => False
abbrev W0 (W : WC) : WC := ⟨fun _ _ _ _ => False, W.ck⟩
def lcRun (g : MG) (tt : MT) (te : ME) (δ : Env) (R : DV → Prop) : List PyData → List PyData → Prop
  | [], acc => R (.own acc)
  | d :: ds, acc => g (.d d) δ fun δ' => tt ex0 δ' fun c => (c = true → te ex0 δ' fun y => match y.val with
      | some z => acc.length < sizeLine ∧ lcRun g tt te δ R ds (acc ++ [z])
      | none => False) ∧ (c = false → lcRun g tt te δ R ds acc)
def mLc (mi : MI) (g : MG) (tt : MT) (te : ME) (vs : List Nat) : ME := fun ex δ R => mi ex δ fun it => lcRun g tt te (wipeD (seenD δ) vs) R it.items []
theorem Good.dropMid {G : Gm} {F H : Hp} {A B : Env} {A' B' : L2.St} {x : DV} {v : V} (hB : B.length = B'.length) (g : Good G F (A ++ B ++ [some x]) (A' ++ B' ++ [some v]) H) : Good G F (A ++ [some x]) (A' ++ [some v]) H := by
  have g1 := g.pop.cut hB
  have t := g.top
  have hl := g1.len
  refine g1.push t fun ho i y hy e q => ?_
  have hl2 : (A ++ B).length = (A' ++ B').length := by simp [hl, hB]
  have hi : i < A.length := (List.getElem?_eq_some_iff.mp e).1
  obtain ⟨l, hv⟩ : ∃ l, v = .ref l := by
    obtain ⟨l, _, h, _⟩ := own_at t ho
    exact ⟨l, h⟩
  subst hv
  have := g.di i (A ++ B).length y x l hy ho (by rw [List.append_assoc, List.getElem?_append_left hi]; exact e) (by simp) (by rw [List.append_assoc, List.getElem?_append_left (by omega)]; exact q) (by rw [hl2]; simp)
  simp at this
  omega
theorem pass_blk {X : Cx} {W : WC} {u : Nat} : ∀ {G : Gm} {τ : Env} {ts : L2.St}, Link X.K X.mg (W0 W) u G τ ts ex0 := fun b F δ σ H τ1 ts1 e cls d _ _ _ _ h => h
section
variable {elt tg iter : Expr} {ifs : List Expr} {scope : Scope} {own : List (Str × Nat)} {mi : MI} {tt : MT} {te : ME}
def mLcN (N : Nat) (mi : MI) (g : MG) (tt : MT) (te : ME) (vs : List Nat) : ME := fun ex δ R => mi ex δ fun it => it.items.length ≤ N ∧ lcRun g tt te (wipeD (seenD δ) vs) R it.items []
theorem lc_lift {g : MG} (hdom : ∀ j ∈ dom, j ∈ own.map (·.2)) {σ : L2.St} {H : Hp} {Q : VK} {ex : XD} {G : Gm} {F : Hp} {δ τ : Env} {ts : L2.St} {τ1 : Env} {ts1 : L2.St} {R : DV → Prop} {S : DIt → Prop} (n : Now X.K X.mg W (u1 + u3) ex G F δ σ τ ts τ1 ts1 H) (m : mi ex δ S)
    (k : ∀ r, R r → ∀ v F' H', Good (G.up (u1 + u3)) F' (δ ++ τ ++ τ1 ++ [some r]) (σ ++ ts ++ ts1 ++ [some v]) H' → Q v H') (hS : ∀ it, S it → it.items.length * (ut + ue) ≤ u3 ∧ lcRun g tt te (wipeD (seenD δ) (own.map (·.2))) R it.items []) :
    tLc (liftI X.K X.mg W u1 mi) (liftG X.K dom g) (liftT X.K X.mg (W0 W) ut tt) (liftE X.K X.mg (W0 W) ue te) (own.map (·.2)) σ H Q := by
  refine ⟨ex, G, F, δ, τ, ts, τ1, ts1, _, n.fst, m, fun it hit0 ws F1 H1 J hl g1 ok D hD => ?_⟩
  obtain ⟨hlen, hit⟩ := hS it hit0
  have more : ∀ (i : Nat), (i + 1) * (ut + ue) = i * (ut + ue) + (ut + ue) := fun i => Nat.succ_mul i _
  have roomI : ∀ {i : Nat}, i < it.items.length → u1 + i * (ut + ue) + (ut + ue) ≤ u1 + u3 := fun {i} h => by
    have h1 : (i + 1) * (ut + ue) ≤ it.items.length * (ut + ue) := Nat.mul_le_mul_right _ h
    rw [Nat.succ_mul] at h1
    omega
  have gD := g1.newO (p := D) (vs := []) (ds := []) hD .nil
  have hlT : (it.tmp.map some).length = (ws.map some).length := by simpa using hl
  have hB : ∀ (j : Nat) (x : DV), (δ ++ τ ++ τ1 ++ it.tmp.map some)[j]? = some (some x) → x.isBor = true → (σ ++ ts ++ ts1 ++ ws.map some)[j]? ≠ some (some (V.ref D)) := fun j x e b q => by
    obtain ⟨v, h1, h2⟩ := g1.sl j x e
    rw [q] at h1
    cases h1
    obtain ⟨l, o, r1, r2, _⟩ := bor_at h2 (by rw [b, Bool.or_true])
    cases r1
    rw [hD] at r2
    cases r2
  obtain ⟨A, hA⟩ : ∃ A, A = δ ++ τ ++ τ1 ++ it.tmp.map some := ⟨_, rfl⟩
  obtain ⟨A', hA'⟩ : ∃ A', A' = σ ++ ts ++ ts1 ++ ws.map some := ⟨_, rfl⟩
  have lA : A.length = A'.length := by rw [hA, hA']; exact g1.len
  refine ⟨fun i j H' => j = it.items.length - i ∧ i ≤ it.items.length ∧ ∃ F' acc, Good (G.up (u1 + i * (ut + ue))) F' (A ++ [some (.own acc)]) (A' ++ [some (.ref D)]) H' ∧ lcRun g tt te (wipeD (seenD δ) (own.map (·.2))) R (it.items.drop i) acc,
    ⟨it.items.length, by simp, Nat.zero_le _, F1, [], by rw [hA, hA', Nat.zero_mul]; exact gD, by simpa using hit⟩, ?_⟩
  rintro i j H2 ⟨rfl, hi, F2, acc, g2, r2⟩
  have g2' : Good (G.up (u1 + i * (ut + ue))) F2 (δ ++ τ ++ τ1 ++ it.tmp.map some ++ [some (.own acc)]) (σ ++ ts ++ ts1 ++ ws.map some ++ [some (.ref D)]) H2 := by rw [← hA, ← hA']; exact g2
  obtain ⟨o1, o2⟩ := ok (u1 + i * (ut + ue)) i F2 _ _ _ _ H2 n.good.len rfl g2'
  cases hd : it.items[i]? with
  | none =>
    have hi2 : it.items.length ≤ i := List.getElem?_eq_none_iff.mp hd
    rw [List.drop_eq_nil_of_le hi2] at r2
    have le1 : u1 + i * (ut + ue) ≤ u1 + u3 := by
      have := Nat.mul_le_mul_right (ut + ue) hi
      omega
    exact .inl ⟨o1 hi2, k _ r2 _ F2 H2 ((g2'.dropMid hlT).mono le1)⟩
  | some d =>
    have hi2 : i < it.items.length := (List.getElem?_eq_some_iff.mp hd).1
    obtain ⟨go, yl⟩ := o2 d hd
    rw [drop_cons hd] at r2
    refine .inr ⟨go, fun H' => ∃ F' acc, Good (G.up (u1 + (i + 1) * (ut + ue))) F' (A ++ [some (.own acc)]) (A' ++ [some (.ref D)]) H' ∧ lcRun g tt te (wipeD (seenD δ) (own.map (·.2))) R (it.items.drop (i + 1)) acc,
      fun H' h => ⟨_, by omega, rfl, hi2, h⟩, fun x H3 hy => ?_⟩
    obtain ⟨F3, g3⟩ := yl x H3 hy
    obtain ⟨B, hBe⟩ : ∃ B, B = A ++ [some (DV.own acc)] := ⟨_, rfl⟩
    obtain ⟨B', hBe'⟩ : ∃ B', B' = A' ++ [some (V.ref D)] := ⟨_, rfl⟩
    have lB : B.length = B'.length := by rw [hBe, hBe']; simp [lA]
    have g4 : Good (G.up (u1 + i * (ut + ue))) F3 (wipeD (seenD δ) (own.map (·.2)) ++ B ++ [some (.d d)]) (wipe σ (own.map (·.2)) ++ B' ++ [some x]) H3 := by
      have := Good.dup (A := τ ++ τ1 ++ it.tmp.map some ++ [some (.own acc)] ++ [some (.d d)]) (A' := ts ++ ts1 ++ ws.map some ++ [some (.ref D)] ++ [some x]) n.l1 (own.map (·.2)) (by simpa only [List.append_assoc] using g3)
      rw [hBe, hBe', hA, hA']
      simpa only [List.append_assoc] using this
    have lw : (wipeD (seenD δ) (own.map (·.2))).length = (wipe σ (own.map (·.2))).length := by rw [wipeD_len, wipe_length, ← n.l1]; simp [seenD]
    refine ⟨G.up (u1 + i * (ut + ue)), F3, _, B, B', .d d, _, n.k, lw, lB, g4, r2, fun δ' hr σ' F4 H4 k1 k2 k3 k4 g5 => ⟨wipe_same k2 hdom k3, ?_⟩⟩
    have l5 : δ'.length = σ'.length := by omega
    refine ⟨ex0, G.up (u1 + i * (ut + ue)), F4, δ', B, B', [], [], _, ⟨n.k, l5, lB, by simpa using g5, pass_blk, n.ck.1, by have := n.ck.2; have := roomI hi2; show G.n + (u1 + i * (ut + ue)) + ut ≤ G.lim; omega⟩, hr, fun bb hb F5 H5 g6 => ?_⟩
    have g6' : Good (G.up (u1 + i * (ut + ue) + ut)) F5 (δ' ++ B) (σ' ++ B') H5 := by rw [up_up] at g6; simpa using g6
    cases bb with
    | false =>
      show if false = true then _ else _
      rw [if_neg Bool.false_ne_true]
      refine ⟨F5, acc, ?_, hb.2 rfl⟩
      rw [← hBe, ← hBe']
      exact (g6'.tail l5).mono (by have := more i; omega)
    | true =>
      show if true = true then _ else _
      rw [if_pos rfl]
      refine ⟨ex0, G.up (u1 + i * (ut + ue) + ut), F5, δ', B, B', [], [], _, ⟨n.k, l5, lB, by simpa using g6', pass_blk, n.ck.1, by have := n.ck.2; have := roomI hi2; show G.n + (u1 + i * (ut + ue) + ut) + ue ≤ G.lim; omega⟩, hb.1 rfl, fun y hy v F6 H6 g7 => ?_⟩
      split at hy
      · rename_i z ez
        obtain ⟨hz, hrun⟩ := hy
        have e7 : u1 + i * (ut + ue) + ut + ue = u1 + (i + 1) * (ut + ue) := by have := more i; omega
        rw [up_up, e7] at g7
        have g7' : Good (G.up (u1 + (i + 1) * (ut + ue))) F6 (δ' ++ B ++ some y :: []) (σ' ++ B' ++ [some v]) H6 := by simpa using g7
        obtain ⟨F7, s7, g8⟩ := fix_one g7' ez
        have g8' : Good (G.up (u1 + (i + 1) * (ut + ue))) F7 (δ' ++ B ++ [some (.d z)]) (σ' ++ B' ++ [some v]) H6 := g8
        have at7 : At G.K F7 v z := g8'.top
        have g9 := g8'.pop.tail l5
        rw [hBe, hBe'] at g9
        obtain ⟨l, ws2, e1, e2, e3, _⟩ := g9.top
        cases e1
        refine ⟨ws2, e2, Nat.lt_of_le_of_lt (Nat.le_of_eq (AtL.length e3)) hz, F7, acc ++ [z], ?_, hrun⟩
        have g10 := g9.write' (n := A.length) (xs := acc) (l := D) (ws := ws2 ++ [v]) (ys := acc ++ [z]) (fun j x e b q => ?_) (by simp) (by rw [lA]; simp) (e3.append (.cons at7 .nil))
        · have e : (A ++ [some (DV.own acc)]).set A.length (some (DV.own (acc ++ [z]))) = A ++ [some (DV.own (acc ++ [z]))] := by
            rw [List.set_append_right _ _ (Nat.le_refl _), Nat.sub_self]
            rfl
          rw [e] at g10
          exact g10
        · rcases Nat.lt_or_ge j A.length with hj | hj
          · rw [List.getElem?_append_left hj] at e
            rw [List.getElem?_append_left (by omega)] at q
            rw [hA] at e
            rw [hA'] at q
            exact hB j x e b q
          · rw [List.getElem?_append_right hj] at e
            have : j - A.length = 0 := by
              have := (List.getElem?_eq_some_iff.mp e).1
              simp at this
              omega
            rw [this] at e
            cases e
            cases b
      · exact hy.elim
theorem de_lc {g : MG} (hc : X.calm = true) (hN : X.N.Nodup) (hi : DI X W tg iter mi u1) (ok : BlkOk X.N X.env.scope scope own) (hdom : ∀ j ∈ dom, j ∈ own.map (·.2))
    (hg : ∀ (s : Shared) (H : Hp) (C : Addr) (cl : List (Str × Addr)) (fp : List Addr), DG (X.blk s H scope (compEnvC scope cl C X.env) fp) tg dom g)
    (ht : ∀ (s : Shared) (H : Hp) (C : Addr) (cl : List (Str × Addr)) (fp : List Addr), DTs (X.blk s H scope (compEnvC scope cl C X.env) fp) (W0 W) ifs tt ut)
    (he : ∀ (s : Shared) (H : Hp) (C : Addr) (cl : List (Str × Addr)) (fp : List Addr), DE (X.blk s H scope (compEnvC scope cl C X.env) fp) (W0 W) elt te ue) (hut : ut = 0 := by rfl) (hue : ue = 0 := by rfl) (hs : ∀ x, foldedSetIterable iter X.env x = pure x := by intro _; rfl) :
    DE X W (.ListComp elt [⟨tg, iter, ifs, 0⟩] scope pos) (mLc mi g tt te (own.map (·.2))) u1 :=
  ⟨PE.imp (pe_lc hc hN hi.pi ok (fun s H C cl fp => (hg s H C cl fp).pg) (fun s H C cl fp => (ht s H C cl fp).pts) (fun s H C cl fp => (he s H C cl fp).pe) hs) fun σ H Q q => by
    obtain ⟨ex, G, F, δ, τ, ts, τ1, ts1, R, n, m, k⟩ := q
    exact lc_lift (u1 := u1) (u3 := 0) (ut := ut) (ue := ue) hdom n m k fun it h => ⟨by rw [hut, hue, Nat.mul_zero]; exact Nat.le_refl _, h⟩⟩
theorem de_lcN (N : Nat) {g : MG} (hc : X.calm = true) (hN : X.N.Nodup) (hi : DI X W tg iter mi u1) (ok : BlkOk X.N X.env.scope scope own) (hdom : ∀ j ∈ dom, j ∈ own.map (·.2))
    (hg : ∀ (s : Shared) (H : Hp) (C : Addr) (cl : List (Str × Addr)) (fp : List Addr), DG (X.blk s H scope (compEnvC scope cl C X.env) fp) tg dom g)
    (ht : ∀ (s : Shared) (H : Hp) (C : Addr) (cl : List (Str × Addr)) (fp : List Addr), DTs (X.blk s H scope (compEnvC scope cl C X.env) fp) (W0 W) ifs tt ut)
    (he : ∀ (s : Shared) (H : Hp) (C : Addr) (cl : List (Str × Addr)) (fp : List Addr), DE (X.blk s H scope (compEnvC scope cl C X.env) fp) (W0 W) elt te ue) (hs : ∀ x, foldedSetIterable iter X.env x = pure x := by intro _; rfl) :
    DE X W (.ListComp elt [⟨tg, iter, ifs, 0⟩] scope pos) (mLcN N mi g tt te (own.map (·.2))) (u1 + N * (ut + ue)) :=
  ⟨PE.imp (pe_lc hc hN hi.pi ok (fun s H C cl fp => (hg s H C cl fp).pg) (fun s H C cl fp => (ht s H C cl fp).pts) (fun s H C cl fp => (he s H C cl fp).pe) hs) fun σ H Q q => by
    obtain ⟨ex, G, F, δ, τ, ts, τ1, ts1, R, n, m, k⟩ := q
    exact lc_lift (u1 := u1) (u3 := N * (ut + ue)) (ut := ut) (ue := ue) hdom n m k fun it h => ⟨Nat.mul_le_mul_right _ h.1, h.2⟩⟩
theorem ds_setLc {i : Nat} {y : Str} {py spos : Pos} {g : MG} (hc : X.calm = true) (hN : X.N.Nodup) (hy : X.N[i]? = some y) (hyl : X.env.scope.names.lookup y = some .local)
    (hsw : swapsWith (.ListComp elt [⟨tg, iter, ifs, 0⟩] scope pos) (some (.Name y py)) spos.line X.env = pure true) (hi : DI X W tg iter mi u1) (ok : BlkOk X.N X.env.scope scope own) (hdom : ∀ j ∈ dom, j ∈ own.map (·.2))
    (hg : ∀ (s : Shared) (H : Hp) (C : Addr) (cl : List (Str × Addr)) (fp : List Addr), DG (X.blk s H scope (compEnvC scope cl C X.env) fp) tg dom g)
    (ht : ∀ (s : Shared) (H : Hp) (C : Addr) (cl : List (Str × Addr)) (fp : List Addr), DTs (X.blk s H scope (compEnvC scope cl C X.env) fp) (W0 W) ifs tt ut)
    (he : ∀ (s : Shared) (H : Hp) (C : Addr) (cl : List (Str × Addr)) (fp : List Addr), DE (X.blk s H scope (compEnvC scope cl C X.env) fp) (W0 W) elt te ue) (hut : ut = 0 := by rfl) (hue : ue = 0 := by rfl) (hs : ∀ x, foldedSetIterable iter X.env x = pure x := by intro _; rfl) :
    DS X W (.Assign [.Name y py] (.ListComp elt [⟨tg, iter, ifs, 0⟩] scope pos) spos) (mAsg (mLc mi g tt te (own.map (·.2))) (gN i)) u1 :=
  ⟨PS.imp (ps_setLc hc hN hy hyl hsw hi.pi ok (fun s H C cl fp => (hg s H C cl fp).pg) (fun s H C cl fp => (ht s H C cl fp).pts) (fun s H C cl fp => (he s H C cl fp).pe) hs) fun D σ H q => by
    have h := set_lift D σ H q
    obtain ⟨ex, G, F, δ, τ, ts, τ1, ts1, R, n, m, k⟩ := h
    exact lc_lift (X := X) (own := own) (u1 := u1) (u3 := 0) (ut := ut) (ue := ue) hdom n m k fun it h => ⟨by rw [hut, hue, Nat.mul_zero]; exact Nat.le_refl _, h⟩⟩
theorem ds_setLcN (N : Nat) {i : Nat} {y : Str} {py spos : Pos} {g : MG} (hc : X.calm = true) (hN : X.N.Nodup) (hy : X.N[i]? = some y) (hyl : X.env.scope.names.lookup y = some .local)
    (hsw : swapsWith (.ListComp elt [⟨tg, iter, ifs, 0⟩] scope pos) (some (.Name y py)) spos.line X.env = pure true) (hi : DI X W tg iter mi u1) (ok : BlkOk X.N X.env.scope scope own) (hdom : ∀ j ∈ dom, j ∈ own.map (·.2))
    (hg : ∀ (s : Shared) (H : Hp) (C : Addr) (cl : List (Str × Addr)) (fp : List Addr), DG (X.blk s H scope (compEnvC scope cl C X.env) fp) tg dom g)
    (ht : ∀ (s : Shared) (H : Hp) (C : Addr) (cl : List (Str × Addr)) (fp : List Addr), DTs (X.blk s H scope (compEnvC scope cl C X.env) fp) (W0 W) ifs tt ut)
    (he : ∀ (s : Shared) (H : Hp) (C : Addr) (cl : List (Str × Addr)) (fp : List Addr), DE (X.blk s H scope (compEnvC scope cl C X.env) fp) (W0 W) elt te ue) (hs : ∀ x, foldedSetIterable iter X.env x = pure x := by intro _; rfl) :
    DS X W (.Assign [.Name y py] (.ListComp elt [⟨tg, iter, ifs, 0⟩] scope pos) spos) (mAsg (mLcN N mi g tt te (own.map (·.2))) (gN i)) (u1 + N * (ut + ue)) :=
  ⟨PS.imp (ps_setLc hc hN hy hyl hsw hi.pi ok (fun s H C cl fp => (hg s H C cl fp).pg) (fun s H C cl fp => (ht s H C cl fp).pts) (fun s H C cl fp => (he s H C cl fp).pe) hs) fun D σ H q => by
    have h := set_lift D σ H q
    obtain ⟨ex, G, F, δ, τ, ts, τ1, ts1, R, n, m, k⟩ := h
    exact lc_lift (X := X) (own := own) (u1 := u1) (u3 := N * (ut + ue)) (ut := ut) (ue := ue) hdom n m k fun it h => ⟨Nat.mul_le_mul_right _ h.1, h.2⟩⟩
end
end
end DL

namespace DL
open PySem PySem.Spec L2

/-! ## a def's promise where no repr is under way around it -/
structure FnG (P : Program) (w : World) (K : PySem.W.Frag) (mg : Str → Option Value) (base : Heap) (k : Nat) (f : Addr) (fd : FuncData) (ps : List Str) (sp : Sp) : Prop where
  len : ∀ vs H Q E, sp vs H Q E → vs.length = ps.length
  run : ∀ (A : Around) (outer : List PySem.Env) (s : Shared) (H : Hp) (args : Args) (us : List Value) (vs : List V) (Q : VK) (E : XK), A.guards = some [] → Room k A → Env0 P w K mg base A outer s H → BindsTo s fd args (ps.zip us) → Vals vs us → sp vs H Q E →
    codeAny (model P w) A (.call (.ref f) args) (CR (L2.CX P w) outer P w H s Q E) s
section
variable {P : Program} {w : World} {K : PySem.W.Frag} {mg : Str → Option Value} {base : Heap}
theorem FnG.mono {j k : Nat} {f : Addr} {fd : FuncData} {ps : List Str} {sp : Sp} (h : FnG P w K mg base j f fd ps sp) (q : j ≤ k) : FnG P w K mg base k f fd ps sp :=
  ⟨h.len, fun A outer s H args us vs Q E hg hr => h.run A outer s H args us vs Q E hg (hr.mono q)⟩
theorem FnG.imp {k : Nat} {f : Addr} {fd : FuncData} {ps : List Str} {sp sp' : Sp} (h : FnG P w K mg base k f fd ps sp) (i : ∀ vs H Q E, sp' vs H Q E → sp vs H Q E) : FnG P w K mg base k f fd ps sp' :=
  ⟨fun vs H Q E q => h.len vs H Q E (i _ _ _ _ q), fun A outer s H args us vs Q E hg hr he hb hv q => h.run A outer s H args us vs Q E hg hr he hb hv (i _ _ _ _ q)⟩
/-- the rule of a def, by its body -/
theorem fnG_of {x qual : Str} {st : Stmt} {f : Addr} {fd : FuncData} {N ps : List Str} {k : Nat} {sp : Sp} (T : L2.Fun K x qual st f fd) (S : FnScope N ps (L2.defScope st)) (len : ∀ vs H Q E, sp vs H Q E → vs.length = ps.length)
    (body : ∀ (cdv : Value) (A : Around) (outer : List PySem.Env) (s : Shared) (H : Hp) (vs : List V) (Q : VK) (E : XK), A.guards = some [] → Room k (A.deeper (PyProof.Rows.envOfC qual (L2.defScope st) s.heap.objs.size f cdv)) → sp vs H Q E →
      ∃ t, PSs (cxOf (L2.CX P w) P w K mg base N qual (L2.defScope st) f cdv A outer s H E) (L2.defBody st) t ∧ t { nx := fun _ H' => Q .non H', rt := Q } (start N vs) H) : FnG P w K mg base (k + 1) f fd ps sp := by
  obtain ⟨oc, od, kV, doc, pm, an, cdv, ct, osl, rfl, lk, hcd⟩ := T.ex
  refine ⟨len, fun A outer s H args us vs Q E hg hr e0 hb r hsp => ?_⟩
  have hlen := len _ _ _ _ hsp
  have kin : K.In s.heap := e0.mod.kin.keeps fun b o e => (e0.bs b o e).1
  have nol : s.heap.NoLimit := e0.mod.nolimit.keeps fun b o e => (e0.bs b o e).1
  have kinds : ∀ y ∈ ps.zip us, (L2.defScope st).names.lookup y.1 = some .local ∨ ((L2.defScope st).names.lookup y.1 = some .cell ∧ ((cellsFrom (s.heap.objs.size + 1) (L2.defScope st).names []).lookup y.1).isSome = true) := by
    rintro ⟨n, v⟩ hy
    rcases S.par n (List.of_mem_zip hy).1 with q | q
    · exact .inl q
    · exact .inr ⟨q, PySem.W.cellsFrom_some _ _ _ (.inl q)⟩
  refine codeAny_call_function hr.depth (kin _ _ lk) rfl S.co S.gen rfl (PySem.W.codeRec_of kin hcd) (hb _ _ _ _ ?_)
  refine wpAny_newFunctionEnv_cells S.kind kinds fun env he s1 x => ?_
  subst he
  refine ⟨nol.keeps x.toInCall.keep, codeAny_func ?_⟩
  obtain ⟨t, ht, hq⟩ := body cdv A outer s H vs Q E hg (hr.deeper _) hsp
  have I := inv_start (CX := L2.CX P w) (E := E) (cd := cdv) S hr.hd e0 hlen r x
  refine wpAny_mono (ht.run [] s1 (start N vs) H _ I hq) (fun fl s' hs => ?_) fun e s' hs => hs
  cases fl with
  | ret u =>
    obtain ⟨v, σ', H', J, rv, q⟩ := hs
    exact ⟨v, H', J.os, J.bare, J.base, J.hok, rv, q⟩
  | next =>
    obtain ⟨σ', H', J, q⟩ := hs
    exact ⟨V.non, H', J.os, J.bare, J.base, J.hok, rfl, q⟩
  | brk =>
    obtain ⟨_, _, _, q⟩ := hs
    exact False.elim q
  | cont =>
    obtain ⟨_, _, _, q⟩ := hs
    exact False.elim q
end

/-! ## the promise as data -/
abbrev CKT := (Addr → Prop) → V → (Nat → Hp → Prop) → Nat → Prop
def spD (K : PySem.W.Frag) (mg : Str → Option Value) (CK : CKT) (u n : Nat) (mf : MF) : Sp := fun vs H Q E => vs.length = n ∧ ∃ (G : Gm) (F : Hp) (as : List DV) (R : DV → Prop) (ex : DExc → Prop), G.K = K ∧ (CK G.C G.cv G.J G.lim ∧ G.n + u ≤ G.lim) ∧ as.length = vs.length ∧ (∀ x ∈ as, x.arg = true) ∧ Good G F (as.map some) (vs.map some) H ∧ mf as R ex ∧
  (∀ r, R r → r.arg = true → ∀ v F' H', Good (G.up u) F' [some r] [some v] H' → Q v H') ∧
  (∀ e, ex e → ∀ b cls d F' H', b ≤ u → Good (G.up b) F' [] [] H' → ExcAt K mg F' H' e cls d → E cls d H')
/-- a def of the module that keeps such a promise, by its name -/
structure DFn (P : Program) (w : World) (K : PySem.W.Frag) (mg : Str → Option Value) (base : Heap) (CK : CKT) (x : Str) (k u n : Nat) (mf : MF) : Prop where
  ex : ∃ f fd ps, mg x = some (.ref f) ∧ PySem.W.keepIn K (.ref f) = true ∧ Binds K fd ps [] ∧ ps.length = n ∧ FnG P w K mg base k f fd ps (spD K mg CK u n mf)
/-- the body of a def as data -/
def startD (n : Nat) (as : List DV) : Env := as.map some ++ List.replicate (n - as.length) none
def bodyD (n : Nat) (m : MS) : MF := fun as R ex => m (fun e _ => ex e) { nx := fun _ => R (.d .none), rt := R, bk := fun _ => False, ct := fun _ => False } (startD n as)
section
variable {P : Program} {w : World} {K : PySem.W.Frag} {mg : Str → Option Value} {base : Heap}
theorem Good.more {G : Gm} {F H : Hp} {δ : Env} {σ : L2.St} (g : Good G F δ σ H) : ∀ k, Good G F (δ ++ List.replicate k none) (σ ++ List.replicate k none) H := fun k => by
  have hl := g.len
  have low : ∀ {α : Type} {l : List (Option α)} {i : Nat} {z : α}, (l ++ List.replicate k none)[i]? = some (some z) → l[i]? = some (some z) := fun {α l i z} e => by
    rcases Nat.lt_or_ge i l.length with q | q
    · rw [List.getElem?_append_left q] at e; exact e
    · rw [List.getElem?_append_right q, List.getElem?_replicate] at e
      split at e <;> cases e
  refine ⟨g.g, by simp [hl], g.f0, g.fh, g.fr, g.bh, g.cf, g.jh, fun i x e => ?_, fun i j x y l hx hy e1 e2 e3 e4 => g.di i j x y l hx hy (low e1) (low e2) (low e3) (low e4)⟩
  obtain ⟨v, h1, h2⟩ := g.sl i x (low e)
  refine ⟨v, ?_, h2⟩
  rw [List.getElem?_append_left (List.getElem?_eq_some_iff.mp h1).1]
  exact h1
/-- the names that a derivation of a body may use of its context -/
structure Ctx (X : Cx) (W : WC) (k : Nat) : Prop where
  gd : X.A.guards = some []
  hr : Room k X.A
  tk : Takes X W.w
structure CtxU (X : Cx) : Prop where
  gd : X.A.guards = some []
  un : X.A.units + 200 < cLine
theorem Ctx.u {X : Cx} {W : WC} {k : Nat} (c : Ctx X W k) : CtxU X := ⟨c.gd, by have := c.hr.un; omega⟩
theorem CtxU.u64 {X : Cx} (c : CtxU X) : X.A.units + 64 < cLine := by have := c.un; omega
theorem CtxU.u65 {X : Cx} (c : CtxU X) : X.A.units + 65 < cLine := by have := c.un; omega
theorem dfn_of {u : Nat} {x qual : Str} {st : Stmt} {f : Addr} {fd : FuncData} {N ps : List Str} {k : Nat} {m : MS} {mf : MF} {CK : CKT} (hm : mg x = some (.ref f)) (T : L2.Fun K x qual st f fd) (hb : Binds K fd ps []) (S : FnScope N ps (L2.defScope st))
    (body : ∀ (cdv : Value) (A : Around) (outer : List PySem.Env) (s : Shared) (H : Hp) (E : XK), Ctx (cxOf (L2.CX P w) P w K mg base N qual (L2.defScope st) f cdv A outer s H E) ⟨fun cls d _ H => E cls d H, CK⟩ k →
      DSs (cxOf (L2.CX P w) P w K mg base N qual (L2.defScope st) f cdv A outer s H E) ⟨fun cls d _ H => E cls d H, CK⟩ (L2.defBody st) m u)
    (post : ∀ as R ex, as.length = ps.length → mf as R ex → bodyD N.length m as R ex) : DFn P w K mg base CK x (k + 1) u ps.length mf := by
  refine ⟨f, fd, ps, hm, T.kp, hb, rfl, fnG_of T S (fun vs H Q E q => q.1) fun cdv A outer s H vs Q E hg hr q => ?_⟩
  obtain ⟨hn, G, F, as, R, ex, hK, hck, hl, harg, g, h, hR, hE⟩ := q
  refine ⟨_, (body cdv A outer s H E ⟨hg, hr, takes_of rfl rfl rfl rfl⟩).pss, ?_⟩
  have hp := post as R ex (hl.trans hn) h
  have hlN : ps.length ≤ N.length := by
    have h1 := S.pre
    have h2 := congrArg List.length h1
    simp at h2
    omega
  refine ⟨fun e _ => ex e, G, F, startD N.length as, [], [], { nx := fun _ => R (.d .none), rt := R, bk := fun _ => False, ct := fun _ => False }, ⟨hK, ?_, rfl, ?_, fun b F' δ' σ' H' τ1 ts1 e cls d hb h1 h2 h3 h4 => ?_, hck⟩, ?_, ⟨fun δ' h' b σ' F' H' hb l' nb' g' => ?_, fun _ z => z.elim, fun _ z => z.elim, fun r hr ha b v F' H' hb g' => hR r hr ha v F' H' (g'.mono hb)⟩, hp⟩
  · unfold startD L2.start
    simp [hl]
  · unfold startD L2.start
    have := g.more (N.length - as.length)
    rw [hl] at this ⊢
    simpa using this
  · refine hE e h4 b cls d F' H' hb (Good.cut (A := []) (A' := []) (B := δ' ++ [] ++ τ1) (B' := σ' ++ [] ++ ts1) h2.len h2) h3
  · intro i x e
    unfold startD at e
    simp only [List.append_nil] at e
    rcases Nat.lt_or_ge i (as.map some).length with q | q
    · rw [List.getElem?_append_left q, List.getElem?_map] at e
      cases q2 : as[i]? with
      | none => rw [q2] at e; cases e
      | some y =>
        rw [q2] at e
        cases e
        have := harg x (List.mem_of_getElem? q2)
        cases x with
        | bor _ => cases this
        | bdk _ => cases this
        | blk _ _ => cases this
        | _ => rfl
    · rw [List.getElem?_append_right q, List.getElem?_replicate] at e
      split at e <;> cases e
  · refine hR _ h' rfl .non F' H' ?_
    have g0 : Good (G.up b) F' ([] : Env) ([] : L2.St) H' := Good.cut (A := []) (A' := []) (B := δ' ++ []) (B' := σ' ++ []) g'.len g'
    exact (Good.pushD g0 .non).mono hb
end

/-! ## calls -/
/-- the arguments as a callee takes them -/
def argsD : List DV → Option (List DV)
  | [] => some []
  | x :: xs => match (match x with
      | .own ys => some (.d (.list ys))
      | .odk ys => some (.d (.dict ys))
      | .ldk _ ys => some (.d (.dict ys))
      | .olk _ _ => none
      | .blk _ _ => none
      | .bor _ => none
      | .bdk _ => none
      | .exc _ _ _ _ => none
      | y => some y : Option DV), argsD xs with
    | some a, some as => some (a :: as)
    | _, _ => none
theorem argsD_arg : ∀ {xs as : List DV}, argsD xs = some as → as.length = xs.length ∧ ∀ a ∈ as, a.arg = true
  | [], as, e => by cases e; exact ⟨rfl, by simp⟩
  | x :: xs, as, e => by
    unfold argsD at e
    split at e
    · rename_i a as' e1 e2
      cases e
      obtain ⟨h1, h2⟩ := argsD_arg e2
      refine ⟨by simp [h1], fun b hb => ?_⟩
      rcases List.mem_cons.mp hb with rfl | hb
      · cases x with
        | own _ => cases e1; rfl
        | d _ => cases e1; rfl
        | cask => cases e1; rfl
        | raw _ => cases e1; rfl
        | scr _ => cases e1; rfl
        | odk _ => cases e1; rfl
        | ldk _ _ => cases e1; rfl
        | _ => cases e1
      · exact h2 b hb
    · cases e
theorem unlk {G : Gm} {F H : Hp} {A A2 : Env} {ρ : L2.St} {p : Unit → LkP} {ys : List (PyData × PyData)} (g : Good G F (A ++ some (.ldk p ys) :: A2) ρ H) : Good G F (A ++ some (.d (.dict ys)) :: A2) ρ H := by
  have back : ∀ {i : Nat} {z : DV}, (A ++ some (.d (.dict ys)) :: A2)[i]? = some (some z) → (i = A.length ∧ z = .d (.dict ys)) ∨ (A ++ some (.ldk p ys) :: A2)[i]? = some (some z) := fun {i z} e => by
    rcases Nat.lt_trichotomy i A.length with q | q | q
    · rw [List.getElem?_append_left q] at e ⊢; exact .inr e
    · subst q; simp at e; exact .inl ⟨rfl, e.symm⟩
    · rw [List.getElem?_append_right (by omega)] at e ⊢
      obtain ⟨k, hk⟩ : ∃ k, i - A.length = k + 1 := ⟨i - A.length - 1, by omega⟩
      rw [hk] at e ⊢
      exact .inr e
  refine ⟨g.g, by have := g.len; simpa using this, g.f0, g.fh, g.fr, g.bh, g.cf, g.jh, fun i z e => ?_, fun i j a b l ha hb e1 e2 e3 e4 => ?_⟩
  · rcases back e with ⟨rfl, rfl⟩ | e
    · obtain ⟨v, e1, h⟩ := g.sl A.length (.ldk p ys) (by simp)
      obtain ⟨_, _, rfl, h1, h2⟩ := h
      exact ⟨_, e1, .dct (.inr ⟨_, h1⟩) h2⟩
    · exact g.sl i z e
  · rcases back e1 with ⟨_, rfl⟩ | e1
    · cases ha
    rcases back e2 with ⟨_, rfl⟩ | e2
    · cases hb
    exact g.di i j a b l ha hb e1 e2 e3 e4
theorem fix_args {G : Gm} {H : Hp} {ρ : L2.St} : ∀ (xs : List DV) {F : Hp} {A : Env} {as : List DV}, Good G F (A ++ xs.map some) ρ H → argsD xs = some as → ∃ F', Same F F' ∧ Good G F' (A ++ as.map some) ρ H
  | [], F, A, as, g, e => by
    cases e
    exact ⟨F, Same.refl F, by simpa using g⟩
  | x :: xs, F, A, as, g, e => by
    unfold argsD at e
    split at e
    · rename_i a as' e1 e2
      cases e
      have one : ∃ F1, Same F F1 ∧ Good G F1 (A ++ some a :: xs.map some) ρ H := by
        cases x with
        | own ys =>
          cases e1
          exact fix_one (A := A) (A2 := xs.map some) (x := .own ys) (by simpa using g) rfl
        | d _ => cases e1; exact ⟨F, Same.refl F, by simpa using g⟩
        | cask => cases e1; exact ⟨F, Same.refl F, by simpa using g⟩
        | raw _ => cases e1; exact ⟨F, Same.refl F, by simpa using g⟩
        | scr _ => cases e1; exact ⟨F, Same.refl F, by simpa using g⟩
        | odk ys =>
          cases e1
          exact fix_one (A := A) (A2 := xs.map some) (x := .odk ys) (by simpa using g) rfl
        | ldk p ys =>
          cases e1
          exact ⟨F, Same.refl F, unlk (A := A) (A2 := xs.map some) (by simpa using g)⟩
        | _ => cases e1
      obtain ⟨F1, s1, g1⟩ := one
      obtain ⟨F2, s2, g2⟩ := fix_args xs (F := F1) (A := A ++ [some a]) (by simpa using g1) e2
      exact ⟨F2, s1.trans s2, by simpa using g2⟩
    · cases e
section
variable {X : Cx} {W : WC} {e : Expr} {es : List Expr} {pos p : Pos} {mas : MA} {x : Str} {k j n u1 u2 : Nat} {mf : MF}
/-- f(e, ..) -/
def mCall (n : Nat) (mf : MF) (t : MA) : ME := fun ex δ R => t ex δ fun xs => match argsD xs with
  | some as => as.length = n ∧ mf as R (fun e => ex e δ)
  | none => False
theorem call_run {f : Addr} {fd : FuncData} {ps : List Str} {sp : Sp} {pins : List (Addr × Obj)} {σ : L2.St} {H : Hp} {s : Shared} {Q : VK} {us : List Value} {vs : List V} (F : FnG X.prog X.w X.K X.mg X.base k f fd ps sp) (hg : X.A.guards = some []) (hr : Room k X.A) (hb : Binds X.K fd ps []) (tk : Takes X W.w)
    (I : Inv X pins σ H s) (r : Vals vs us) (h : sp vs H Q (WE W.w σ)) : wpAny (model X.prog X.w) X.A (call (.ref f) us) (EP X pins σ Q) X.xe s := by
  have hl : us.length = ps.length := by rw [← r.length]; exact F.len _ _ _ _ h
  have hb' := hb s us I.kIn (by simpa using hl)
  rw [List.append_nil] at hb'
  refine wpAny_call (codeAny_mono (F.run X.A X.stack s H ⟨us, []⟩ us vs Q (WE W.w σ) hg hr I.env0 hb' r h) fun res s' hq => ?_)
  match res, hq with
  | .error e, hq => exact passAt tk σ pins H s e s' I hq
  | .ok (.ret u), hq => exact I.after hq
theorem spD_lift (σ : L2.St) (H : Hp) (Q : VK) (q : liftE X.K X.mg W (u1 + u2) (mCall n mf mas) σ H Q) :
    liftA X.K X.mg W u1 mas σ H fun vs H1 => spD X.K X.mg W.ck u2 n mf vs H1 Q (WE W.w σ) := by
  obtain ⟨ex, G, F, δ, τ, ts, τ1, ts1, R, nw, m, kk⟩ := q
  refine ⟨ex, G, F, δ, τ, ts, τ1, ts1, _, nw.fst, m, fun xs hxs vs F1 H1 hl g1 => ?_⟩
  split at hxs
  · rename_i as ea
    obtain ⟨hn, hxs⟩ := hxs
    obtain ⟨h1, h2⟩ := argsD_arg ea
    obtain ⟨F2, s2, g2⟩ := fix_args xs g1 ea
    have hla : as.length = vs.length := h1.trans hl
    have gb := g2.cut (by simpa using hla)
    refine ⟨hla.symm.trans hn, (G.up u1).into F2 H1, F2, as, R, fun e => ex e δ, nw.k, ⟨nw.ck.1, by have := nw.ck.2; show G.n + u1 + u2 ≤ G.lim; omega⟩, hla, h2, gb.into h2 hla fun i x e => Good.nth hla g2 e, hxs, fun r hr ha v F' H' g' => kk r hr v F' H' (by rw [← up_up]; exact gb.ret (δ₁ := []) (σ₁ := []) ha g'), fun e he b cls d F' H' hb g' hx => ?_⟩
    exact nw.link (u1 + b) F' δ σ H' τ1 ts1 e cls d (by omega) nw.l1 (by rw [← up_up]; exact gb.back g') hx he
  · exact hxs.elim
theorem de_call (c : Ctx X W j) (F : DFn X.prog X.w X.K X.mg X.base W.ck x k u2 n mf) (hk : k ≤ j) (hg : Gl X x) (ha : DA X W (e :: es) mas u1) (hdb : (x == ("__debug__" : Str)) = false := by decide)
    (he : starEach (e :: es) X.env = (false, eval e X.env) :: starEach es X.env := by rfl) (hpl : (backTo pos (starEach es X.env)).any (·.1) = false := by rfl) : DE X W (.Call (.Name x p) (e :: es) [] pos) (mCall n mf mas) (u1 + u2) := by
  obtain ⟨f, fd, ps, hm, hkp, hb, hn, hF⟩ := F
  refine ⟨⟨fun pins s σ H Q I h => ?_⟩⟩
  have h' := spD_lift σ H Q h
  refine wpAny_Call_Name_kw (ld_glob I hg hm ?_ hdb)
  exact PySem.W.callWith_K (h₀ := X.base) I.ok.mod.kin hkp (thn (ha.pa.run pos pins s σ H _ I h') fun us s1 ⟨vs, H1, I1, r, q⟩ => ⟨I1.kIn, call_run hF c.gd (c.hr.mono hk) hb c.tk I1 r q⟩) he hpl
theorem de_call0 (c : Ctx X W j) (F : DFn X.prog X.w X.K X.mg X.base W.ck x k u2 n mf) (hk : k ≤ j) (hg : Gl X x) (hdb : (x == ("__debug__" : Str)) = false := by decide) : DE X W (.Call (.Name x p) [] [] pos) (mCall n mf mNil) u2 := by
  obtain ⟨f, fd, ps, hm, hkp, hb, hn, hF⟩ := F
  refine ⟨⟨fun pins s σ H Q I h => ?_⟩⟩
  have h' := spD_lift (u1 := 0) (u2 := u2) σ H Q (by rw [Nat.zero_add]; exact h)
  refine wpAny_Call_Name_kw (ld_glob I hg hm ?_ hdb)
  refine PySem.W.callWith_K0 I.kIn hkp ?_
  obtain ⟨vs, H1, I1, r, q⟩ : ∃ vs H1, Inv X pins σ H1 s ∧ Vals vs [] ∧ spD X.K X.mg W.ck u2 n mf vs H1 Q (WE W.w σ) := by
    obtain ⟨ex, G, F, δ, τ, ts, τ1, ts1, R, nw, m, kk⟩ := h'
    exact ⟨[], H, I, .nil, kk [] m [] F H rfl (by simpa using nw.good.later 0)⟩
  exact call_run hF c.gd (c.hr.mono hk) hb c.tk I1 r q
end
theorem DFn.le {P : Program} {w : World} {K : PySem.W.Frag} {mg : Str → Option Value} {base : Heap} {CK : CKT} {x : Str} {k u u' n : Nat} {mf : MF} (h : DFn P w K mg base CK x k u n mf) (hu : u ≤ u') : DFn P w K mg base CK x k u' n mf := by
  obtain ⟨f, fd, ps, h1, h2, h3, h4, h5⟩ := h
  refine ⟨f, fd, ps, h1, h2, h3, h4, h5.imp fun vs H Q E q => ?_⟩
  obtain ⟨q1, G, F, as, R, ex, q2, q3, q4, q5, q6, q7, q8, q9⟩ := q
  exact ⟨q1, G, F, as, R, ex, q2, ⟨q3.1, Nat.le_trans (Nat.add_le_add_left hu _) q3.2⟩, q4, q5, q6, q7, fun r hr ha v F' H' g => q8 r hr ha v F' H' (g.mono hu), fun e he b cls d F' H' hb g => q9 e he b cls d F' H' (Nat.le_trans hb hu) g⟩
end DL

namespace DL
open PySem PySem.Spec L2

/-! ## the law's own call, for promises that know of no repr under way -/
section
variable {P : Program} {w : World} {K : PySem.W.Frag} {mg mb : Str → Option Value} {k : Nat} {fa a : Addr} {fd : FuncData} {x : Str} {sp : Sp} {s₁ : Shared} {vs : List Value} {ns : List Int}
/-- over one abstract heap that tracks at most the script -/
theorem law_over {H : Hp} (kin : K.In s₁.heap) (hns : s₁.heap.Ns mainGlobals mg) (hb : s₁.heap.Ns builtinsNs mb) (hbb : ∀ y : Str, y ≠ "__name__" → mb y = bootBuiltins y) (hlim : s₁.heap.NoLimit) (hg : s₁.gens = #[])
    (ha : s₁.heap.get? a = some { cls := .type "list", data := .seq vs.toArray }) (hr : Room k PySem.callerA)
    (F : ∀ base : Heap, K.In base → base.Ns mainGlobals mg → FnG P w K mg base k fa fd [x] sp) (hbind : ∀ (s : Shared) (u : Value), BindsTo s fd ⟨[u], []⟩ [(x, u)])
    (only : L2.Only H) (hok : HOk P w H s₁.heap) (at1 : ∀ b, H b ≠ none → b = a) (noK : H a ≠ none → K.lookup a = none)
    (hsp : sp [.ref a] H (fun v _ => v = .bl true) fun _ _ _ => False) :
    codeAny (model P w) PySem.callerA (.call (.ref fa) ⟨[.ref a], []⟩) (fun r s' => r = .ok (.ret (.bool true)) ∧ OldK s₁.heap s'.heap ∧ s'.os = s₁.os ∧ PyProof.Rows.AllBare s'.gens) s₁ := by
  have isA : ∀ {b : Addr} {o : Obj}, s₁.heap.get? b = some o → (∀ us n, o.data ≠ .seq us n) → H b = none := by
    intro b o e d
    cases q : H b with
    | none => rfl
    | some u =>
      obtain rfl := at1 b (by rw [q]; simp)
      rw [ha] at e
      cases e
      exact absurd rfl (d _ _)
  have inB : ∀ {b : Addr} {m : Str → Option Value}, s₁.heap.Ns b m → (hidT s₁.heap H).Ns b m := by
    rintro b m ⟨o, es, ep, e, d, r⟩
    exact ⟨o, es, ep, hidT_get e (isA e fun us n z => by rw [d] at z; cases z), d, r⟩
  have kinB : K.In (hidT s₁.heap H) := by
    intro b o e
    refine hidT_get (kin b o e) ?_
    cases q : H b with
    | none => rfl
    | some u =>
      obtain rfl := at1 b (by rw [q]; simp)
      rw [noK (by rw [q]; simp)] at e
      cases e
  have md : Mod K mg (hidT s₁.heap H) := by
    obtain ⟨mc, l1, l2⟩ := hlim
    exact ⟨kinB, inB hns, ⟨mb, inB hb, hbb⟩, ⟨mc, inB l1, l2⟩⟩
  have e0 : Env0 P w K mg (hidT s₁.heap H) PySem.callerA [] s₁ H :=
    ⟨rfl, md, fun b o e => of_hidT e, by rw [hidT_size]; exact Nat.le_refl _, trivial, fun b hb => (List.not_mem_nil (show b ∈ ([] : List Addr) from hb)).elim, hok, .of_eq hg⟩
  have run := (F _ kinB (inB hns)).run PySem.callerA [] s₁ H ⟨[.ref a], []⟩ [.ref a] [.ref a] (fun v _ => v = .bl true) (fun _ _ _ => False) rfl hr e0 (hbind s₁ (.ref a)) (.cons rfl .nil) hsp
  refine codeAny_mono run fun r s' h => ?_
  match r, h with
  | .error e, h =>
    obtain ⟨_, _, _, _, _, _, _, _, _, _, _, _, z⟩ := h
    exact z.elim
  | .ok (.ret u), h =>
    obtain ⟨v, H', os, bare, un, hok', rv, q⟩ := h
    obtain rfl : v = .bl true := q
    obtain rfl : u = Value.bool true := rv
    refine ⟨rfl, OldK.of_keep fun b o e => ?_, os, bare⟩
    cases q : H b with
    | none => exact un.keep b o e q (fun z => (List.not_mem_nil (show b ∈ ([] : List Addr) from z)).elim) (fun z => (List.not_mem_nil z).elim)
    | some u =>
      rcases only b with z | ⟨ob, xs, z⟩
      · rw [q] at z
        cases z
      · obtain ⟨e1, _⟩ := hok b _ z
        obtain ⟨e2, _⟩ := hok' b _ (un.frzs b ob _ z)
        rw [e] at e1
        cases e1
        exact e2
theorem law_callG (kin : K.In s₁.heap) (hns : s₁.heap.Ns mainGlobals mg) (hb : s₁.heap.Ns builtinsNs mb) (hbb : ∀ y : Str, y ≠ "__name__" → mb y = bootBuiltins y) (hlim : s₁.heap.NoLimit) (hg : s₁.gens = #[])
    (ha : s₁.heap.get? a = some { cls := .type "list", data := .seq vs.toArray }) (hi : PyProof.Rows.IntsAre vs ns) (hl : ns.length ≤ sizeLine) (hr : Room k PySem.callerA)
    (F : ∀ base : Heap, K.In base → base.Ns mainGlobals mg → FnG P w K mg base k fa fd [x] sp) (hbind : ∀ (s : Shared) (u : Value), BindsTo s fd ⟨[u], []⟩ [(x, u)])
    (hsp : ∀ H : Hp, L2.Only H → SqL K H a (ns.map V.int) → sp [.ref a] H (fun v _ => v = .bl true) fun _ _ _ => False) :
    codeAny (model P w) PySem.callerA (.call (.ref fa) ⟨[.ref a], []⟩) (fun r s' => r = .ok (.ret (.bool true)) ∧ OldK s₁.heap s'.heap ∧ s'.os = s₁.os ∧ PyProof.Rows.AllBare s'.gens) s₁ := by
  have rv := L2.vals_ints hi
  have hlen := hi.length
  cases hk : K.lookup a with
  | some o =>
    have e := kin a o hk
    rw [ha] at e
    cases e
    have o1 : L2.Only fun _ => none := fun _ => .inl rfl
    exact law_over kin hns hb hbb hlim hg ha hr F hbind o1 (fun b u z => nomatch z) (fun b z => absurd rfl z) (fun z => absurd rfl z)
      (hsp _ o1 (.inr ⟨_, vs.toArray, _, hk, rfl, rfl, rfl, by rw [List.size_toArray, hlen]; exact hl, by simpa using rv⟩))
  | none =>
    obtain ⟨H, hH⟩ : ∃ H : Hp, H = fun b => if b = a then some (.frz { cls := .type "list", data := .seq vs.toArray } (.lst (ns.map V.int))) else none := ⟨_, rfl⟩
    have ht : H a = some (.frz { cls := .type "list", data := .seq vs.toArray } (.lst (ns.map V.int))) := by rw [hH]; exact if_pos rfl
    have hn : ∀ b, b ≠ a → H b = none := fun b q => by rw [hH]; exact if_neg q
    have o1 : L2.Only H := fun b => by
      by_cases q : b = a
      · subst q
        exact .inr ⟨_, _, ht⟩
      · exact .inl (hn b q)
    refine law_over kin hns hb hbb hlim hg ha hr F hbind o1 (fun b u z => ?_) (fun b z => ?_) (fun _ => hk) (hsp _ o1 (.inl (.inr ⟨_, ht⟩)))
    · by_cases q : b = a
      · subst q
        rw [ht] at z
        cases z
        exact ⟨ha, by rw [List.length_map]; exact hl, vs, _, rv, ha⟩
      · rw [hn b q] at z
        cases z
    · exact Classical.byContradiction fun q => z (hn b q)
end
/-- what is left of the row: F gives the law's def -/
theorem walkG {l : PySem.W.OpenLaw} {k : Nat} {q : Program} {loose : List Str} {XP : (Str → Option Value) → Heap → Prop} {YP : World → Heap → Prop} {d : DefRec} {K : Params → PySem.W.Frag} {sp : PySem.W.Frag → Sp} {x : Str}
    (hn : l.most = some 63) (hdf : d.params.defaults = []) (hr : Room k PySem.callerA)
    (hY : ∀ (w : World) (h : Heap), YP w h → (K w.params).In h)
    (F : ∀ (w : World) (mg : Str → Option Value) (fa : Addr) (h : Heap), (K w.params).In h → h.Ns mainGlobals mg → mg d.name = some (.ref fa) →
      ∃ fd : FuncData, (∀ (s : Shared) (u : Value), BindsTo s fd ⟨[u], []⟩ [(x, u)]) ∧
        ∀ base : Heap, (K w.params).In base → base.Ns mainGlobals mg → FnG l.prog w (K w.params) mg base k fa fd [x] (sp (K w.params)))
    (hsp : ∀ (K : PySem.W.Frag) (H : Hp) (a : Addr) (ns : List Int), ns.length ≤ 63 → L2.Only H → SqL K H a (ns.map V.int) → sp K [.ref a] H (fun v _ => v = .bl true) fun _ _ _ => False) :
    PySem.W.WalkO q loose XP YP l.row.toRowW d [] (fun f vs => PySem.call f vs) := by
  refine Att.attach_call hn hdf fun w s₀ s₁ mg mb fa o pm cd doc a vs ns G Y ho hd hcd hmg hobj hints hlen hg => ?_
  have kin := hY w _ Y
  obtain ⟨fd, hb, hF⟩ := F w mg fa _ kin G.T.g hmg
  exact law_callG kin G.T.g G.T.b G.T.builtins G.T.nolimit hg hobj hints (Nat.le_trans hlen (by rw [sizeLine_eq]; decide)) hr hF hb fun H hO hS => hsp _ H a ns hlen hO hS
end DL

namespace DL
open PySem PySem.Spec L2

/-! ## operators on data -/
section
variable {u u1 u2 u3 : Nat} {X : Cx} {W : WC} {a b c e : Expr} {es : List Expr} {pos : Pos} {ma mb me : ME} {mas : MA} {k : Nat}
theorem Good.fresh {G : Gm} {F H : Hp} {δ : Env} {σ : L2.St} (g : Good G F δ σ H) {p : Addr} (hp : H p = none) : F p = none := by
  cases q : F p with
  | none => rfl
  | some u => rw [g.fh _ _ q] at hp; cases hp
/-- a value as plain data -/
def DV.pd : DV → Option PyData
  | .d x => some x
  | .own xs => some (.list xs)
  | .bor xs => some (.list xs)
  | _ => none

/-! ### data as the library reads it -/
mutual
theorem At.reads {pins : List (Addr × Obj)} {σ : L2.St} {H F : Hp} {s : Shared} (I : Inv X pins σ H s) (hf : Same F H) : ∀ (d : PyData) (v : V) (u : Value), d.hasDict = false → At X.K F v d → RelV v u → ∃ as, Reads s.heap u d as
  | .none, _, _, _, h, r => by cases h; cases r; exact ⟨_, Reads.none⟩
  | .bool b, _, _, _, h, r => by cases h; cases r; exact ⟨_, Reads.bool b⟩
  | .int i, _, _, _, h, r => by
    cases h
    obtain ⟨t, rfl⟩ := r
    exact ⟨_, Reads.int i t⟩
  | .str x, _, _, _, h, r => by
    cases h
    obtain ⟨t, rfl⟩ := r
    exact ⟨_, Reads.str x t⟩
  | .list ds, _, _, hd, h, r => by
    cases h with
    | lst hs ha =>
      cases r
      obtain ⟨its, rv, ⟨o, n, ho, hc, _, hdat⟩, _⟩ := I.list (SqL.of (hf _ _ hs))
      obtain ⟨as, hr⟩ := AtL.reads I hf ds _ its (by simpa only [PyData.hasDict] using hd) ha rv
      exact ⟨_, Reads.list ho hc hdat hr⟩
  | .tuple ds, _, _, hd, h, r => by
    cases h with
    | tup hs ha =>
      cases r
      obtain ⟨its, rv, ⟨o, ho, hc, n, hdat⟩, _⟩ := I.tuple (sqT_mono hf hs)
      obtain ⟨as, hr⟩ := AtL.reads I hf ds _ its (by simpa only [PyData.hasDict] using hd) ha rv
      exact ⟨_, Reads.tuple ho hc hdat hr⟩
  | .dict kvs, _, _, hd, _, _ => by simp only [PyData.hasDict] at hd; cases hd
theorem AtL.reads {pins : List (Addr × Obj)} {σ : L2.St} {H F : Hp} {s : Shared} (I : Inv X pins σ H s) (hf : Same F H) : ∀ (ds : List PyData) (vs : List V) (us : List Value), PyData.hasDictAll ds = false → AtL X.K F vs ds → Vals vs us → ∃ as, ReadsAll s.heap us ds as
  | [], _, _, _, h, r => by cases h; cases r; exact ⟨_, ReadsAll.nil⟩
  | d :: ds, _, _, hd, h, r => by
    simp only [PyData.hasDictAll, Bool.or_eq_false_iff] at hd
    cases h with
    | cons h1 h2 =>
      cases r with
      | cons r1 r2 =>
        obtain ⟨as, q1⟩ := At.reads I hf d _ _ hd.1 h1 r1
        obtain ⟨bs, q2⟩ := AtL.reads I hf ds _ _ hd.2 h2 r2
        exact ⟨_, ReadsAll.cons q1 q2⟩
end
/-- a value of a slot or a temp, as data over the whole heap -/
def Da (K : PySem.W.Frag) (H : Hp) (v : V) (d : PyData) : Prop := ∃ F, Same F H ∧ At K F v d
theorem pd_da {G : Gm} {F H : Hp} {v : V} {x : DV} {d : PyData} (h : VOk G F H v x) (hf : Same F H) (e : x.pd = some d) : Da G.K H v d := by
  have own : ∀ {l : Addr} {vs : List V} {xs : List PyData}, H l = some (.lst vs) → AtL G.K F vs xs → Da G.K H (.ref l) (.list xs) := fun {l vs xs} h1 h2 => by
    refine ⟨H, Same.refl H, .lst h1 (AtL.mono hf _ _ h2)⟩
  match x, e, h with
  | .d y, e, h => cases e; exact ⟨F, hf, h⟩
  | .own xs, e, h =>
    cases e
    obtain ⟨l, vs, rfl, h1, h2, _⟩ := h
    exact own h1 h2
  | .bor xs, e, h =>
    cases e
    obtain ⟨l, vs, rfl, h1, h2, _⟩ := h
    exact own h1 h2

/-! ### numbers -/
def oI (C : Int → Int → Prop) (f : Int → Int → Int) : D2 := fun x y R => match x, y with
  | .d (.int i), .d (.int j) => C i j ∧ R (.d (.int (f i j)))
  | _, _ => False
def oC (f : Int → Int → Bool) : D2 := fun x y R => match x, y with
  | .d (.int i), .d (.int j) => R (.d (.bool (f i j)))
  | _, _ => False
theorem o2_I {C : Int → Int → Prop} {f : Int → Int → Int} : Op2 X (rI C fun i j => .int (f i j)) (oI C f) := by
  intro G F δ σ H v u x y R Q hK g hx hy h k
  match x, y, h, hx, hy with
  | .d (.int i), .d (.int j), h, hx, hy =>
    cases int_of hx
    cases int_of hy
    exact ⟨i, j, rfl, rfl, h.1, k _ h.2 _ F H (g.pushD (.int _))⟩
theorem o2_C {f : Int → Int → Bool} : Op2 X (rI0 fun i j => .bl (f i j)) (oC f) := by
  intro G F δ σ H v u x y R Q hK g hx hy h k
  match x, y, h, hx, hy with
  | .d (.int i), .d (.int j), h, hx, hy =>
    cases int_of hx
    cases int_of hy
    exact ⟨i, j, rfl, rfl, k _ h _ F H (g.pushD (.bl _))⟩
theorem oC_bool {f : Int → Int → Bool} : ∀ x y R, oC f x y R → oC f x y fun z => R z ∧ ∃ k, z = .d (.bool k) := by
  intro x y R h
  match x, y, h with
  | .d (.int i), .d (.int j), h => exact ⟨h, _, rfl⟩
/-- + of numbers, texts, tuples, lists -/
def oAdd : D2 := fun x y R => match x, y with
  | .d (.int i), .d (.int j) => R (.d (.int (i + j)))
  | .d (.str s), .d (.str t) => s.length + t.length ≤ sizeLine ∧ R (.d (.str (s ++ t)))
  | .d (.tuple xs), .d (.tuple ys) => xs.length + ys.length ≤ sizeLine ∧ R (.d (.tuple (xs ++ ys)))
  | x, y => match x.lst, y.lst with
    | some xs, some ys => xs.length + ys.length ≤ sizeLine ∧ R (.own (xs ++ ys))
    | _, _ => False
def rAdd4 (K : PySem.W.Frag) : R2 := fun x y H Q => rI0 (fun i j => .int (i + j)) x y H Q ∨ (∃ i j, x = .str i ∧ y = .str j ∧ i.length + j.length ≤ sizeLine ∧ Q (.str (i ++ j)) H) ∨ rCatA K x y H Q ∨ rCat x y H Q
theorem op_add4 : OpR X (binaryOp .Add) (rAdd4 X.K) := op_add.or (op_add_str.or (op_catA.or op_cat))
theorem o2_add : Op2 X (rAdd4 X.K) oAdd := by
  intro G F δ σ H v u x y R Q hK g hx hy h k
  have lists : ∀ {xs ys : List PyData}, x.lst = some xs → y.lst = some ys → xs.length + ys.length ≤ sizeLine → R (.own (xs ++ ys)) → rAdd4 X.K v u H Q := fun {xs ys} e1 e2 hz hR => by
    obtain ⟨l, vs, rfl, h1, h2⟩ := lst_of hx g.fh e1
    obtain ⟨l', ws, rfl, h3, h4⟩ := lst_of hy g.fh e2
    refine .inr (.inr (.inr ⟨l, l', vs, ws, rfl, rfl, h1, h3, by rw [h2.length, h4.length]; exact hz, fun p hp => ?_⟩))
    exact k _ hR _ _ _ (g.newO hp (h2.append h4))
  unfold oAdd at h
  split at h
  · cases int_of hx
    cases int_of hy
    exact .inl ⟨_, _, rfl, rfl, k _ h _ F H (g.pushD (.int _))⟩
  · rename_i s t
    cases (show At G.K F v (.str s) from hx)
    cases (show At G.K F u (.str t) from hy)
    exact .inr (.inl ⟨_, _, rfl, rfl, h.1, k _ h.2 _ F H (g.pushD (.str _))⟩)
  · rename_i xs ys
    obtain ⟨l, vs, rfl, h1, h2⟩ := tup_of hx g.fh
    obtain ⟨l', ws, rfl, h3, h4⟩ := tup_of hy g.fh
    have hxx : At G.K F (.ref l) (.tuple xs) := hx
    have hyy : At G.K F (.ref l') (.tuple ys) := hy
    rw [hK] at h1 h3
    refine .inr (.inr (.inl ⟨l, l', vs, ws, rfl, rfl, h1, h3, by rw [h2.length, h4.length]; exact h.1, fun e => ?_, fun _ e => ?_, fun _ _ p hp => ?_⟩))
    · have : xs = [] := by
        have q := h2.length
        rw [e] at q
        exact List.length_eq_zero_iff.mp q.symm
      subst this
      exact k _ h.2 _ F H (g.pushD hyy)
    · have : ys = [] := by
        have q := h4.length
        rw [e] at q
        exact List.length_eq_zero_iff.mp q.symm
      subst this
      exact k _ h.2 _ F H (g.pushD (by rw [List.append_nil]; exact hxx))
    · exact k _ h.2 _ _ _ (g.newT hp (h2.append h4))
  · split at h
    · rename_i xs ys e1 e2
      exact lists e1 e2 h.1 h.2
    · exact h.elim
/-- * of numbers, of a list by a number -/
def oMul : D2 := fun x y R => match x, y with
  | .d (.int i), .d (.int j) => CMul i j ∧ R (.d (.int (i * j)))
  | x, .d (.int k) => match x.lst with
    | some xs => -(2 ^ 63) ≤ k ∧ k < 2 ^ 63 ∧ xs.length * k.toNat ≤ sizeLine ∧ R (.own (List.replicate k.toNat xs).flatten)
    | none => False
  | _, _ => False
def rMul2 : R2 := fun x y H Q => rI CMul (fun i j => .int (i * j)) x y H Q ∨ rRep x y H Q
theorem op_mul2 : OpR X (binaryOp .Mult) rMul2 := op_mul.or op_rep
theorem o2_mul : Op2 X rMul2 oMul := by
  intro G F δ σ H v u x y R Q hK g hx hy h k
  unfold oMul at h
  split at h
  · cases int_of hx
    cases int_of hy
    exact .inl ⟨_, _, rfl, rfl, h.1, k _ h.2 _ F H (g.pushD (.int _))⟩
  · rename_i kk _
    split at h
    · rename_i xs e1
      obtain ⟨l, vs, rfl, h1, h2⟩ := lst_of hx g.fh e1
      cases int_of hy
      exact .inr ⟨l, _, vs, rfl, rfl, h1, h.1, h.2.1, by rw [h2.length]; exact h.2.2.1, fun p hp => k _ h.2.2.2 _ _ _ (g.newO hp (h2.rep _))⟩
    · exact h.elim
  · exact h.elim
theorem de_add (ha : DE X W a ma u1) (hb : DE X W b mb u2) : DE X W (.BinOp a .Add b pos) (mBin oAdd ma mb) (u1 + u2) := de_op op_add4 o2_add ha hb
def oSub : D2 := oI (fun _ _ => True) fun i j => i - j
theorem oSub_i {i j : Int} {R : DV → Prop} : (oSub (.d (.int i)) (.d (.int j)) R) = (R (.d (.int (i - j)))) := by simp [oSub, oI]
theorem de_sub (ha : DE X W a ma u1) (hb : DE X W b mb u2) : DE X W (.BinOp a .Sub b pos) (mBin oSub ma mb) (u1 + u2) := by
  show DE X W (.BinOp a .Sub b pos) (mBin (oI (fun _ _ => True) fun i j => i - j) ma mb) (u1 + u2)
  have h : OpR X (binaryOp .Sub) (rI (fun _ _ => True) fun i j => .int (i - j)) := by
    intro pins s σ H x y v u Q I rx ry ⟨i, j, e1, e2, _, q⟩
    exact op_sub pins s σ H x y v u Q I rx ry ⟨i, j, e1, e2, q⟩
  exact de_op h o2_I ha hb
theorem de_mul (ha : DE X W a ma u1) (hb : DE X W b mb u2) : DE X W (.BinOp a .Mult b pos) (mBin oMul ma mb) (u1 + u2) := de_op op_mul2 o2_mul ha hb
theorem de_div (ha : DE X W a ma u1) (hb : DE X W b mb u2) : DE X W (.BinOp a .FloorDiv b pos) (mBin (oI CDivW fun i j => i / j) ma mb) (u1 + u2) := de_op op_fdivW o2_I ha hb
theorem de_mod (ha : DE X W a ma u1) (hb : DE X W b mb u2) : DE X W (.BinOp a .Mod b pos) (mBin (oI (fun _ j => 0 < j) fun i j => i % j) ma mb) (u1 + u2) := de_op op_mod o2_I ha hb
theorem de_pow (ha : DE X W a ma u1) (hb : DE X W b mb u2) : DE X W (.BinOp a .Pow b pos) (mBin (oI CPow fun i j => i ^ j.toNat) ma mb) (u1 + u2) := de_op op_pow o2_I ha hb
abbrev oLt : D2 := oC fun i j => decide (i < j)
abbrev oLe : D2 := oC fun i j => decide (i ≤ j)
abbrev oGt : D2 := oC fun i j => decide (j < i)
abbrev oGe : D2 := oC fun i j => decide (j ≤ i)
def oNeg : D1 := fun x R => match x with
  | .d (.int i) => R (.d (.int (-i)))
  | _ => False
def mUn (o : D1) (ma : ME) : ME := fun ex δ R => ma ex δ fun x => o x R
theorem de_neg (ha : DE X W a ma u) : DE X W (.UnaryOp .USub a pos) (mUn oNeg ma) u := ⟨PE.imp (pe_un un_neg ha.pe) fun σ H Q q => by
  obtain ⟨ex, G, F, δ, τ, ts, τ1, ts1, R, n, m, k⟩ := q
  refine ⟨ex, G, F, δ, τ, ts, τ1, ts1, _, n, m, fun x hx v F1 H1 g1 => ?_⟩
  match x, hx, g1 with
  | .d (.int i), hx, g1 =>
    cases int_of g1.top
    exact ⟨i, rfl, k _ hx _ F1 H1 (g1.pop.pushD (.int _))⟩⟩

/-! ### equality, in, is None -/
def oEq (neg : Bool) : D2 := fun x y R => match x.pd, y.pd with
  | some (.str a), some (.str b) => R (.d (.bool (if neg then !PyData.eqv (.str a) (.str b) else PyData.eqv (.str a) (.str b))))
  | some p, some q => SeqAt.shaped p = true ∧ SeqAt.shaped q = true ∧ R (.d (.bool (if neg then !PyData.eqv p q else PyData.eqv p q)))
  | _, _ => False
def rEqA (K : PySem.W.Frag) (neg : Bool) : R2 := fun x y H Q => ∃ d e, Da K H x d ∧ Da K H y e ∧ SeqAt.shaped d = true ∧ SeqAt.shaped e = true ∧ Q (.bl (if neg then !PyData.eqv d e else PyData.eqv d e)) H
theorem shaped_nd {d : PyData} (h : SeqAt.shaped d = true) : d.hasDict = false := PyData.hasDict_of_canLay d (SeqAt.canLay_of_shaped h)
theorem op_eqA (hu : X.A.units + 64 < cLine) : OpR X (compareOp .Eq) (rEqA X.K false) := by
  intro pins s σ H x y v u Q I rx ry ⟨d, e, ⟨F, hF, hd⟩, ⟨F', hF', he⟩, sd, se, q⟩
  obtain ⟨as, r1⟩ := At.reads I hF d x v (shaped_nd sd) hd rx
  obtain ⟨bs, r2⟩ := At.reads I hF' e y u (shaped_nd se) he ry
  exact SeqAt.compareEq_shaped r1 r2 sd se hu ⟨.bl _, H, I, rfl, q⟩
theorem op_neA (hu : X.A.units + 64 < cLine) : OpR X (compareOp .NotEq) (rEqA X.K true) := by
  intro pins s σ H x y v u Q I rx ry ⟨d, e, ⟨F, hF, hd⟩, ⟨F', hF', he⟩, sd, se, q⟩
  obtain ⟨as, r1⟩ := At.reads I hF d x v (shaped_nd sd) hd rx
  obtain ⟨bs, r2⟩ := At.reads I hF' e y u (shaped_nd se) he ry
  exact SeqAt.compareNe_shaped r1 r2 sd se hu ⟨.bl _, H, I, rfl, q⟩
def rEqB (K : PySem.W.Frag) (neg : Bool) : R2 := fun x y H Q => (∃ a b, x = .str a ∧ y = .str b ∧ Q (.bl (if neg then !decide (V.str a = V.str b) else decide (V.str a = V.str b))) H) ∨ rEqA K neg x y H Q
theorem op_eqB (hu : X.A.units + 64 < cLine) : OpR X (compareOp .Eq) (rEqB X.K false) := by
  intro pins s σ H x y v u Q I rx ry h
  rcases h with ⟨a, b, rfl, rfl, q⟩ | h
  · exact op_eq pins s σ H _ _ v u Q I rx ry ⟨rfl, q⟩
  · exact op_eqA hu pins s σ H x y v u Q I rx ry h
theorem op_neB (hu : X.A.units + 64 < cLine) : OpR X (compareOp .NotEq) (rEqB X.K true) := by
  intro pins s σ H x y v u Q I rx ry h
  rcases h with ⟨a, b, rfl, rfl, q⟩ | h
  · exact op_ne pins s σ H _ _ v u Q I rx ry ⟨rfl, q⟩
  · exact op_neA hu pins s σ H x y v u Q I rx ry h
theorem eqv_str (a b : Str) : PyData.eqv (.str a) (.str b) = decide (V.str a = V.str b) := by
  simp only [PyData.eqv]
  by_cases h : a = b
  · subst h; simp
  · simp [h]
theorem str_of {K : PySem.W.Frag} {H : Hp} {v : V} {a : Str} (h : Da K H v (.str a)) : v = .str a := by
  obtain ⟨F, _, h⟩ := h
  cases h
  rfl
theorem o2_eq {neg : Bool} : Op2 X (rEqB X.K neg) (oEq neg) := by
  intro G F δ σ H v u x y R Q hK g hx hy h k
  unfold oEq at h
  split at h
  · rename_i a b e1 e2
    have d1 := str_of (pd_da hx g.fh e1)
    have d2 := str_of (pd_da hy g.fh e2)
    refine .inl ⟨a, b, d1, d2, ?_⟩
    have := k _ h (.bl (if neg then !decide (V.str a = V.str b) else decide (V.str a = V.str b))) F H (by rw [eqv_str]; exact g.pushD (.bl _))
    exact this
  · refine .inr ?_
    rename_i p q _ e1 e2
    have d1 := pd_da hx g.fh e1
    have d2 := pd_da hy g.fh e2
    rw [hK] at d1 d2
    exact ⟨p, q, d1, d2, h.1, h.2.1, k _ h.2.2 _ F H (g.pushD (.bl _))⟩
  · exact h.elim
theorem de_eq (cx : CtxU X) (ha : DE X W a ma u1) (hb : DE X W b mb u2) : DE X W (.Compare a [.Eq] [b] pos) (mBin (oEq false) ma mb) (u1 + u2) := de_cmp (op_eqB cx.u64) o2_eq ha hb (nomark _)
theorem de_ne (cx : CtxU X) (ha : DE X W a ma u1) (hb : DE X W b mb u2) : DE X W (.Compare a [.NotEq] [b] pos) (mBin (oEq true) ma mb) (u1 + u2) := de_cmp (op_neB cx.u64) o2_eq ha hb (nomark _)
theorem de_lt (ha : DE X W a ma u1) (hb : DE X W b mb u2) : DE X W (.Compare a [.Lt] [b] pos) (mBin oLt ma mb) (u1 + u2) := de_cmp op_lt o2_C ha hb (nomark _)
theorem de_le (ha : DE X W a ma u1) (hb : DE X W b mb u2) : DE X W (.Compare a [.LtE] [b] pos) (mBin oLe ma mb) (u1 + u2) := de_cmp op_le o2_C ha hb (nomark _)
theorem de_gt (ha : DE X W a ma u1) (hb : DE X W b mb u2) : DE X W (.Compare a [.Gt] [b] pos) (mBin oGt ma mb) (u1 + u2) := de_cmp op_gt o2_C ha hb (nomark _)
theorem de_ge (ha : DE X W a ma u1) (hb : DE X W b mb u2) : DE X W (.Compare a [.GtE] [b] pos) (mBin oGe ma mb) (u1 + u2) := de_cmp op_ge o2_C ha hb (nomark _)
/-- x in a list or a tuple -/
def oIn (neg : Bool) : D2 := fun x y R => match x.pd, y.seq with
  | some p, some ds => SeqAt.shaped p = true ∧ SeqAt.shaped (.list ds) = true ∧ R (.d (.bool (if neg then !(ds.any fun z => PyData.eqv z p) else ds.any fun z => PyData.eqv z p)))
  | _, _ => False
def rInA (K : PySem.W.Frag) (neg : Bool) : R2 := fun x y H Q => ∃ d ds, Da K H x d ∧ (Da K H y (.list ds) ∨ Da K H y (.tuple ds)) ∧ SeqAt.shaped d = true ∧ SeqAt.shaped (.list ds) = true ∧ Q (.bl (if neg then !(ds.any fun z => PyData.eqv z d) else ds.any fun z => PyData.eqv z d)) H
theorem room_in {A : Around} {ds : List PyData} {d : PyData} (h : SeqAt.shaped d = true) (hu : A.units + 65 < cLine) : A.units + 1 + min (PyData.depthAll ds) d.depth < cLine := by
  have := SeqAt.depth_of_shaped h
  omega
theorem op_inA (hu : X.A.units + 65 < cLine) : OpR X (compareOp .In) (rInA X.K false) := by
  intro pins s σ H x y v u Q I rx ry ⟨d, ds, ⟨F, hF, hd⟩, hs, sd, se, q⟩
  obtain ⟨as, r1⟩ := At.reads I hF d x v (shaped_nd sd) hd rx
  have nd := shaped_nd se
  rcases hs with ⟨F', hF', he⟩ | ⟨F', hF', he⟩
  · obtain ⟨bs, r2⟩ := At.reads I hF' (.list ds) y u nd he ry
    exact SeqAt.in_list_reads r2 r1 (SeqAt.canLay_of_shaped se) (SeqAt.canLay_of_shaped sd) (room_in sd hu) ⟨.bl _, H, I, rfl, q⟩
  · obtain ⟨bs, r2⟩ := At.reads I hF' (.tuple ds) y u (by simpa only [PyData.hasDict] using nd) he ry
    exact SeqAt.in_tuple_reads r2 r1 (SeqAt.canLay_of_shaped se) (SeqAt.canLay_of_shaped sd) (room_in sd hu) ⟨.bl _, H, I, rfl, q⟩
theorem op_notInA (hu : X.A.units + 65 < cLine) : OpR X (compareOp .NotIn) (rInA X.K true) := by
  intro pins s σ H x y v u Q I rx ry ⟨d, ds, ⟨F, hF, hd⟩, hs, sd, se, q⟩
  obtain ⟨as, r1⟩ := At.reads I hF d x v (shaped_nd sd) hd rx
  have nd := shaped_nd se
  rcases hs with ⟨F', hF', he⟩ | ⟨F', hF', he⟩
  · obtain ⟨bs, r2⟩ := At.reads I hF' (.list ds) y u nd he ry
    exact SeqAt.notIn_list_reads r2 r1 (SeqAt.canLay_of_shaped se) (SeqAt.canLay_of_shaped sd) (room_in sd hu) ⟨.bl _, H, I, rfl, q⟩
  · obtain ⟨bs, r2⟩ := At.reads I hF' (.tuple ds) y u (by simpa only [PyData.hasDict] using nd) he ry
    exact SeqAt.notIn_tuple_reads r2 r1 (SeqAt.canLay_of_shaped se) (SeqAt.canLay_of_shaped sd) (room_in sd hu) ⟨.bl _, H, I, rfl, q⟩
theorem o2_in {neg : Bool} : Op2 X (rInA X.K neg) (oIn neg) := by
  intro G F δ σ H v u x y R Q hK g hx hy h k
  unfold oIn at h
  split at h
  · rename_i p ds e1 e2
    have d1 := pd_da hx g.fh e1
    rw [hK] at d1
    have d2 : Da X.K H u (.list ds) ∨ Da X.K H u (.tuple ds) := by
      match y, e2, hy with
      | .d (.list xs), e2, hy => cases e2; left; have := pd_da hy g.fh rfl; rw [hK] at this; exact this
      | .d (.tuple xs), e2, hy => cases e2; right; have := pd_da hy g.fh rfl; rw [hK] at this; exact this
      | .own xs, e2, hy => cases e2; left; have := pd_da hy g.fh rfl; rw [hK] at this; exact this
      | .bor xs, e2, hy => cases e2; left; have := pd_da hy g.fh rfl; rw [hK] at this; exact this
    exact ⟨p, ds, d1, d2, h.1, h.2.1, k _ h.2.2 _ F H (g.pushD (.bl _))⟩
  · exact h.elim
theorem de_in (cx : CtxU X) (ha : DE X W a ma u1) (hb : DE X W b mb u2) (hm : behindInMarks .In b = false := by rfl) : DE X W (.Compare a [.In] [b] pos) (mBin (oIn false) ma mb) (u1 + u2) := de_cmp (op_inA cx.u65) o2_in ha hb hm
theorem de_notin (cx : CtxU X) (ha : DE X W a ma u1) (hb : DE X W b mb u2) (hm : behindInMarks .NotIn b = false := by rfl) : DE X W (.Compare a [.NotIn] [b] pos) (mBin (oIn true) ma mb) (u1 + u2) := de_cmp (op_notInA cx.u65) o2_in ha hb hm
/-- x is None -/
def oIsN (neg : Bool) : D2 := fun x y R => match y with
  | .d .none => match x with
    | .d .none => R (.d (.bool (!neg)))
    | .d _ => R (.d (.bool neg))
    | .own _ => R (.d (.bool neg))
    | .bor _ => R (.d (.bool neg))
    | _ => False
  | _ => False
theorem non_iff {G : Gm} {F H : Hp} {v : V} {x : DV} (hx : VOk G F H v x) : (x = .d .none → v = .non) ∧ (∀ y, x = .d y → y ≠ .none → v ≠ .non) ∧ (∀ xs, x = .own xs → v ≠ .non) ∧ (∀ xs, x = .bor xs → v ≠ .non) := by
  refine ⟨fun e => ?_, fun y e hy hv => ?_, fun xs e hv => ?_, fun xs e hv => ?_⟩
  · subst e
    cases (show At G.K F v .none from hx)
    rfl
  · subst e
    subst hv
    cases (show At G.K F .non y from hx)
    exact hy rfl
  · subst e
    obtain ⟨l, vs, h, _⟩ := hx
    rw [hv] at h
    cases h
  · subst e
    obtain ⟨l, vs, h, _⟩ := hx
    rw [hv] at h
    cases h
def rIsNA (neg : Bool) : R2 := fun x y H Q => y = .non ∧ Q (.bl (if neg then !decide (x = .non) else decide (x = .non))) H
theorem op_isA : OpR X (compareOp .Is) (rIsNA false) := op_isN
theorem op_isNotA : OpR X (compareOp .IsNot) (rIsNA true) := op_notN
theorem o2_isN {neg : Bool} : Op2 X (rIsNA neg) (oIsN neg) := by
  intro G F δ σ H v u x y R Q hK g hx hy h k
  unfold oIsN at h
  split at h
  · have hu := (non_iff hy).1 rfl
    subst hu
    refine ⟨rfl, ?_⟩
    obtain ⟨n1, n2, n3, n4⟩ := non_iff hx
    split at h
    · rw [n1 rfl]
      have e : (if neg = true then !decide (V.non = V.non) else decide (V.non = V.non)) = !neg := by cases neg <;> rfl
      rw [e]
      exact k _ h _ F H (g.pushD (.bl _))
    · rename_i y hy
      have : decide (v = V.non) = false := decide_eq_false (n2 y rfl fun z => hy z)
      rw [this]
      have e : (if neg = true then !false else false) = neg := by cases neg <;> rfl
      rw [e]
      exact k _ h _ F H (g.pushD (.bl _))
    · have : decide (v = V.non) = false := decide_eq_false (n3 _ rfl)
      rw [this]
      have e : (if neg = true then !false else false) = neg := by cases neg <;> rfl
      rw [e]
      exact k _ h _ F H (g.pushD (.bl _))
    · have : decide (v = V.non) = false := decide_eq_false (n4 _ rfl)
      rw [this]
      have e : (if neg = true then !false else false) = neg := by cases neg <;> rfl
      rw [e]
      exact k _ h _ F H (g.pushD (.bl _))
    · exact h.elim
  · exact h.elim
theorem de_is (ha : DE X W a ma u1) (hb : DE X W b mb u2) : DE X W (.Compare a [.Is] [b] pos) (mBin (oIsN false) ma mb) (u1 + u2) := de_cmp op_isA o2_isN ha hb (nomark _)
theorem de_isnot (ha : DE X W a ma u1) (hb : DE X W b mb u2) : DE X W (.Compare a [.IsNot] [b] pos) (mBin (oIsN true) ma mb) (u1 + u2) := de_cmp op_isNotA o2_isN ha hb (nomark _)

/-! ### items and slices -/
def oIxI (x : DV) (i : Int) (R : DV → Prop) : Prop := match x with
  | .d (.str z) => z.length ≤ sizeLine ∧ ∃ ch, atI z.cps.toList i = some ch ∧ R (.d (.str ⟨#[ch]⟩))
  | x => match x.seq with
    | some ds => match atI ds i with
      | some d => R (.d d)
      | none => False
    | none => False
def oIx : D2 := fun x y R => match y with
  | .d (.int i) => oIxI x i R
  | _ => False
theorem atI_len {α β : Type} {xs : List α} {ys : List β} (h : xs.length = ys.length) (i : Int) : ixN xs.length i = ixN ys.length i := by rw [h]
theorem atL_at {K : PySem.W.Frag} {F : Hp} {vs : List V} {ds : List PyData} (h : AtL K F vs ds) {i : Int} {d : PyData} (e : atI ds i = some d) : ∃ v, atI vs i = some v ∧ At K F v d := by
  unfold atI at e ⊢
  rw [h.length]
  cases q : ixN ds.length i with
  | none => rw [q] at e; cases e
  | some j =>
    rw [q] at e
    obtain ⟨v, h1, h2⟩ := h.get (i := j) e
    exact ⟨v, h1, h2⟩
theorem o2_ix : Op2 X (rIx X.K) oIx := by
  intro G F δ σ H v u x y R Q hK g hx hy h k
  match y, h, hy with
  | .d (.int i), h, hy =>
    cases int_of hy
    replace h : oIxI x i R := h
    have fin : ∀ {ds : List PyData} {l : Addr} {vs : List V}, (match atI ds i with | some d => R (.d d) | none => False) → v = .ref l → AtL G.K F vs ds → (SqL X.K H l vs ∨ SqT X.K H l vs) → rIx X.K v (.int i) H Q := by
      rintro ds l vs hm rfl ha hs
      split at hm
      · rename_i d ed
        obtain ⟨w, ew, hw⟩ := atL_at ha ed
        rcases hs with hs | hs
        · exact .inl ⟨l, vs, i, w, rfl, rfl, hs, ew, k _ hm _ F H (g.pushD hw)⟩
        · exact .inr (.inl ⟨l, vs, i, w, rfl, rfl, hs, ew, k _ hm _ F H (g.pushD hw)⟩)
      · exact hm.elim
    match x, h, hx with
    | .d (.str z), h, hx =>
      cases (show At G.K F v (.str z) from hx)
      obtain ⟨hz, ch, hc, hR⟩ := h
      exact .inr (.inr ⟨z, i, ch, rfl, rfl, hz, hc, k _ hR _ F H (g.pushD (.str _))⟩)
    | .d (.list xs), h, hx =>
      obtain ⟨l, vs, h1, h2, h3⟩ := lst_of hx g.fh rfl
      exact fin h h1 h3 (.inl (SqL.of h2))
    | .d (.tuple xs), h, hx =>
      obtain ⟨l, vs, h1, h2, h3⟩ := tup_of hx g.fh
      rw [hK] at h2
      exact fin h h1 h3 (.inr h2)
    | .own xs, h, hx =>
      obtain ⟨l, vs, h1, h2, h3⟩ := lst_of hx g.fh rfl
      exact fin h h1 h3 (.inl (SqL.of h2))
    | .bor xs, h, hx =>
      obtain ⟨l, vs, h1, h2, h3⟩ := lst_of hx g.fh rfl
      exact fin h h1 h3 (.inl (SqL.of h2))
theorem de_ix (ha : DE X W a ma u1) (hb : DE X W b mb u2) (hs : PlainIx b := by intro _ _; rfl) : DE X W (.Subscript a b pos) (mBin oIx ma mb) (u1 + u2) :=
  ⟨PE.imp (pe_ix ix_seq ha.pe hb.pe hs) fun σ H Q q => bin_lift o2_ix σ H Q q⟩
end
end DL

namespace DL
open PySem PySem.Spec L2

/-! ## slices -/
section
variable {u u1 u2 u3 : Nat} {X : Cx} {W : WC} {a b c e : Expr} {es : List Expr} {pos : Pos} {ma mb me : ME} {mas : MA} {k : Nat}
abbrev MO := XD → Env → (Option Int → Prop) → Prop
def liftO (K : PySem.W.Frag) (mg : Str → Option Value) (W : WC) (u : Nat) (m : MO) : TO := fun σ H Q => ∃ (ex : XD) (G : Gm) (F : Hp) (δ τ : Env) (ts : L2.St) (τ1 : Env) (ts1 : L2.St) (R : Option Int → Prop), Now K mg W u ex G F δ σ τ ts τ1 ts1 H ∧ m ex δ R ∧
  ∀ r, R r → ∀ F' H', Good (G.up u) F' (δ ++ τ ++ τ1) (σ ++ ts ++ ts1) H' → Q r H'
structure DO' (X : Cx) (W : WC) (e : Option Expr) (m : MO) (u : Nat) : Prop where
  po : PO X e (liftO X.K X.mg W u m)
theorem PO.imp {X : Cx} {e : Option Expr} {t t' : TO} (h : PO X e t) (i : ∀ σ H Q, t' σ H Q → t σ H Q) : PO X e t' := ⟨fun pins s σ H Q I q => h.run pins s σ H Q I (i _ _ _ q)⟩
def mPN : MO := fun _ _ R => R none
def mPS (m : ME) : MO := fun ex δ R => m ex δ fun x => match x with
  | .d (.int i) => R (some i)
  | _ => False
theorem do_none : DO' X W none mPN 0 := ⟨PO.imp po_none fun σ H Q q => by
  obtain ⟨ex, G, F, δ, τ, ts, τ1, ts1, R, n, m, k⟩ := q
  exact k _ m F H (n.good.later 0)⟩
theorem do_some (h : DE X W e me u) : DO' X W (some e) (mPS me) u := ⟨PO.imp (po_some h.pe) fun σ H Q q => by
  obtain ⟨ex, G, F, δ, τ, ts, τ1, ts1, R, n, m, k⟩ := q
  refine ⟨ex, G, F, δ, τ, ts, τ1, ts1, _, n, m, fun x hx v F1 H1 g1 => ?_⟩
  match x, hx, g1 with
  | .d (.int i), hx, g1 =>
    cases int_of g1.top
    exact ⟨i, rfl, k _ hx F1 H1 g1.pop⟩⟩
def cutD (xs : List PyData) (lo hi : Option Int) : List PyData := (xs.drop (HT.sIx xs.length 0 lo)).take (HT.sIx xs.length xs.length hi - HT.sIx xs.length 0 lo)
theorem atL_cut {K : PySem.W.Frag} {F : Hp} {vs : List V} {ds : List PyData} (h : AtL K F vs ds) (lo hi : Option Int) : AtL K F (cutV vs lo hi) (cutD ds lo hi) := by
  unfold cutV cutD
  rw [h.length]
  exact (h.drop _).take _
def oSl (x : DV) (lo hi : Option Int) (R : DV → Prop) : Prop := match x with
  | .d (.str z) => z.length ≤ sizeLine ∧ R (.d (.str (cutS z lo hi)))
  | .d (.tuple ds) => R (.d (.tuple (cutD ds lo hi)))
  | .scr ns => R (.own (cutD (ns.map .int) lo hi))
  | x => match x.lst with
    | some ds => R (.own (cutD ds lo hi))
    | none => False
def mSl (me : ME) (ml mh : MO) : ME := fun ex δ R => me ex δ fun x => ml ex δ fun lo => mh ex δ fun hi => oSl x lo hi R
def rSl3 (K : PySem.W.Frag) : V → Option Int → Option Int → Hp → VK → Prop := fun x lo hi H Q => rSlL K x lo hi H Q ∨ rSlA K x lo hi H Q ∨ rSlS x lo hi H Q
theorem sl3 : SlR X (rSl3 X.K) := SlR.or sl_list (SlR.or sl_tupA sl_str)
theorem cutD_all {ds : List PyData} {lo hi : Option Int} (h : HT.sIx ds.length 0 lo = 0 ∧ HT.sIx ds.length ds.length hi = ds.length) : cutD ds lo hi = ds := by
  unfold cutD
  rw [h.1, h.2]
  simp
theorem de_slice {lo hi : Option Expr} {p2 : Pos} {ml mh : MO} (he : DE X W e me u1) (hl : DO' X W lo ml u2) (hh : DO' X W hi mh u3) : DE X W (.Subscript e (.Slice lo hi none p2) pos) (mSl me ml mh) (u1 + (u2 + u3)) :=
  ⟨PE.imp (pe_slice sl3 he.pe hl.po hh.po) fun σ H Q q => by
    obtain ⟨ex, G, F, δ, τ, ts, τ1, ts1, R, n, m, k⟩ := q
    refine ⟨ex, G, F, δ, τ, ts, τ1, ts1, _, n.fst, m, fun x hx v F1 H1 g1 => ?_⟩
    refine ⟨ex, G.up u1, F1, δ, τ, ts, _, _, _, (n.after g1).fst, hx, fun l hlo F2 H2 g2 => ?_⟩
    refine ⟨ex, (G.up u1).up u2, F2, δ, τ, ts, _, _, _, (n.after g1).here g2, hlo, fun h hhi F3 H3 g3 => ?_⟩
    rw [up_up, up_up] at g3
    have g : Good (G.up (u1 + (u2 + u3))) F3 (δ ++ τ ++ τ1 ++ [some x]) (σ ++ ts ++ ts1 ++ [some v]) H3 := by simpa only [List.append_assoc] using g3
    have hxv := g.top
    match x, hhi, hxv, g with
    | .d (.str z), hhi, hxv, g =>
      cases (show At G.K F3 v (.str z) from hxv)
      exact .inr (.inr ⟨z, rfl, hhi.1, k _ hhi.2 _ F3 H3 (g.pop.pushD (.str _))⟩)
    | .d (.tuple ds), hhi, hxv, g =>
      obtain ⟨a, vs, rfl, h2, h3⟩ := tup_of hxv g.fh
      have hxx : At G.K F3 (.ref a) (.tuple ds) := hxv
      rw [n.k] at h2
      refine .inr (.inl ⟨a, vs, rfl, h2, fun hw => ?_, fun hw p hp => k _ hhi _ _ _ (g.pop.newT hp (atL_cut h3 l h))⟩)
      rw [h3.length] at hw
      have hhi' : R (.d (.tuple (cutD ds l h))) := hhi
      rw [cutD_all hw] at hhi'
      exact k _ hhi' _ F3 H3 (g.pop.pushD hxx)
    | .scr ns, hhi, hxv, g =>
      obtain ⟨a, vs, rfl, h2, h3⟩ := rd_of hxv g.fh rfl
      rw [n.k] at h2
      exact .inl ⟨a, vs, rfl, h2, fun p hp => k _ hhi _ _ _ (g.pop.newO hp (atL_cut h3 l h))⟩
    | .d (.list ds), hhi, hxv, g =>
      obtain ⟨a, vs, rfl, h2, h3⟩ := lst_of hxv g.fh rfl
      exact .inl ⟨a, vs, rfl, SqL.of h2, fun p hp => k _ hhi _ _ _ (g.pop.newO hp (atL_cut h3 l h))⟩
    | .own ds, hhi, hxv, g =>
      obtain ⟨a, vs, rfl, h2, h3⟩ := lst_of hxv g.fh rfl
      exact .inl ⟨a, vs, rfl, SqL.of h2, fun p hp => k _ hhi _ _ _ (g.pop.newO hp (atL_cut h3 l h))⟩
    | .bor ds, hhi, hxv, g =>
      obtain ⟨a, vs, rfl, h2, h3⟩ := lst_of hxv g.fh rfl
      exact .inl ⟨a, vs, rfl, SqL.of h2, fun p hp => k _ hhi _ _ _ (g.pop.newO hp (atL_cut h3 l h))⟩⟩

/-! ### [::-1] -/
section
variable {prog : Program} {w : World} {A : Around} {E : Value → Shared → Prop} {s : Shared}
theorem back_applied {sl : Addr} {n : Nat} {Q : Int × Int × Nat → Shared → Prop} (hs : ∃ os, s.heap.get? sl = some os ∧ os.cls = .type "slice" ∧ ∃ t, os.data = .fields #[.none, .none, .int (-1) t])
    (h : Q ((n : Int) - 1, -1, n) s) : wpAny (model prog w) A (Builtin.Slice.sliceApplied (.ref sl) (pure (n : Int))) Q E s := by
  obtain ⟨os, hos, hcs, t, hds⟩ := hs
  unfold Builtin.Slice.sliceApplied Builtin.Slice.sliceFields
  refine wpAny_bind (wpAny_bind (wpAny_field hos hds (x := .none) rfl (wpAny_bind (wpAny_field hos hds (x := .none) rfl (wpAny_bind (wpAny_field hos hds (x := .int (-1) t) rfl (wpAny_pure ?_)))))))
  refine wpAny_bind (PyProof.Rows.slicePart_int ?_)
  show wpAny _ _ (if ((-1 : Int) == 0) = true then _ else _) _ _ s
  rw [if_neg (by decide)]
  refine wpAny_bind (PyProof.Rows.slicePart_none (wpAny_bind (PyProof.Rows.slicePart_none (wpAny_bind (wpAny_pure ?_)))))
  have e1 : Builtin.Slice.sliceAdjust none none (-1) (n : Int) = ((n : Int) - 1, -1) := by
    unfold Builtin.Slice.sliceAdjust
    simp
  have e2 : Builtin.Slice.slicePlaces ((n : Int) - 1) (-1) (-1) = n := by
    unfold Builtin.Slice.slicePlaces
    simp
    omega
  show wpAny _ _ (match Builtin.Slice.sliceAdjust none none (-1) (n : Int) with | (lo, hi) => pure (lo, (-1 : Int), Builtin.Slice.slicePlaces lo hi (-1))) _ _ s
  rw [e1]
  show wpAny _ _ (pure ((n : Int) - 1, (-1 : Int), Builtin.Slice.slicePlaces ((n : Int) - 1) (-1) (-1))) _ _ s
  rw [e2]
  exact wpAny_pure h
theorem back_pick (xs : List Value) : ((List.range xs.length).filterMap fun (m : Nat) => xs.toArray[(((xs.length : Nat) : Int) - 1 + (m : Int) * (-1)).toNat]?) = xs.reverse := by
  have e : (List.range xs.length).map (fun m => xs.length - 1 - m) = (List.range xs.length).reverse := by
    apply List.ext_getElem?
    intro i
    by_cases hi : i < xs.length
    · rw [List.getElem?_map, List.getElem?_range hi, List.getElem?_reverse (by simpa using hi), List.length_range, List.getElem?_range (by omega)]
      rfl
    · rw [List.getElem?_eq_none (by simpa using hi), List.getElem?_eq_none (by simpa using hi)]
  have e2 : ((List.range xs.length).filterMap fun (m : Nat) => xs.toArray[(((xs.length : Nat) : Int) - 1 + (m : Int) * (-1)).toNat]?) = ((List.range xs.length).map (fun m => xs.length - 1 - m)).filterMap fun j => xs[j]? := by
    rw [List.filterMap_map]
    have cong : ∀ (l : List Nat) (f g : Nat → Option Value), (∀ m ∈ l, f m = g m) → l.filterMap f = l.filterMap g := by
      intro l f g h
      induction l with
      | nil => rfl
      | cons a l ih => rw [List.filterMap_cons, List.filterMap_cons, h a List.mem_cons_self, ih fun m hm => h m (List.mem_cons_of_mem _ hm)]
    refine cong _ _ _ fun m hm => ?_
    have hm' : m < xs.length := List.mem_range.mp hm
    have : (((xs.length : Nat) : Int) - 1 + (m : Int) * (-1)).toNat = xs.length - 1 - m := by omega
    rw [this]
    simp
  rw [e2, e, List.filterMap_reverse]
  congr 1
  apply List.ext_getElem?
  intro i
  have all : ∀ l : List Value, (List.range l.length).filterMap (fun j => l[j]?) = l := by
    intro l
    induction l with
    | nil => rfl
    | cons a l ih =>
      rw [List.length_cons, List.range_succ_eq_map, List.filterMap_cons]
      simp only [List.getElem?_cons_zero, List.filterMap_map]
      congr 1
  rw [all]
theorem getItem_tuple_back {t sl : Addr} {its : List Value} {Q : Value → Shared → Prop} (ht : PyProof.Rows.IsTup s.heap t its.toArray) (hs : ∃ os, s.heap.get? sl = some os ∧ os.cls = .type "slice" ∧ ∃ tk, os.data = .fields #[.none, .none, .int (-1) tk])
    (h : Q (.ref s.heap.objs.size) { s with heap := s.heap.push { cls := .type "tuple", data := .seq its.reverse.toArray } }) (hsz : its.length ≤ sizeLine) : wpAny (model prog w) A (getItem (.ref t) (.ref sl)) Q E s := by
  obtain ⟨os, hos, hcs, hrest⟩ := id hs
  have hT : s.TypeIs (.ref sl) "slice" := ⟨os, hos, hcs⟩
  have room : sizeOk (.seq its.reverse.toArray) := by
    show its.reverse.toArray.size ≤ sizeLine
    rw [List.size_toArray, List.length_reverse]
    exact hsz
  unfold getItem
  try with_reducible refine wpAny_holding ?_
  first | refine wpAny_bind (wpAny_pure ?_) | skip
  refine wpAny_bind (wpAny_sequenceKey ht.typeIs (by decide) ?_)
  refine wpAny_bind (wpAny_callSpecial?_slot (name := Str.ofString "__getitem__") ht.typeIs PyProof.Rows.slot_tuple_getitem (wpAny_call_entry PyProof.Rows.slot_tuple_getitem ht.typeIs PyProof.Rows.entry_tuple_getitem ?_ (PyProof.Rows.args_tuple_getitem _ _)))
  show wpAny _ _ (Builtin.Tuple.tupleItemsOf (.ref t) >>= _) _ _ s
  refine wpAny_bind (PyProof.Rows.tupleItemsOf_ ht ?_)
  refine wpAny_bind (wpAny_typeOf hT ?_)
  rw [if_pos (by decide)]
  rw [show its.toArray.size = its.length from List.size_toArray]
  refine wpAny_bind (back_applied hs ?_)
  have hne : ¬ ((((its.length : Nat) : Int) - 1 == 0 && (-1 : Int) == 1 && its.length == its.length) = true) := by simp
  show wpAny _ _ (if ((((its.length : Nat) : Int) - 1 == 0 && (-1 : Int) == 1 && its.length == its.length) = true) then _ else _) _ _ s
  rw [if_neg hne, back_pick]
  first
    | exact wpAny_bind (m := Builtin.Tuple.tupleExact _) (wpAny_newObj_type (wpAny_pure ⟨_, rfl, wpAny_pure h⟩) room)
    | exact wpAny_bind (m := Builtin.Tuple.tupleExact _) (wpAny_newObj_type (wpAny_bind (wpAny_pure (wpAny_pure ⟨_, rfl, wpAny_pure h⟩))) room)
    | exact wpAny_bind (wpAny_bind (m := Builtin.Tuple.tupleExact _) (wpAny_newObj_type (wpAny_pure (wpAny_pure ⟨_, rfl, wpAny_pure h⟩)) room))
    | exact wpAny_bind (wpAny_bind (m := Builtin.Tuple.tupleExact _) (wpAny_newObj_type (wpAny_pure ⟨_, rfl, wpAny_pure h⟩) room))
end
def tBack (K : PySem.W.Frag) (te : TE) : TE := fun σ H Q => te σ H fun x H1 => ∃ a xs, x = .ref a ∧ ((SqL K H1 a xs ∧ ∀ p, H1 p = none → Q (.ref p) (upd H1 p (.lst xs.reverse))) ∨ (SqT K H1 a xs ∧ ∀ p, H1 p = none → Q (.ref p) (upd H1 p (.tup xs.reverse))))
theorem pe_back {te : TE} {n1 : Nat} {p1 p2 p3 : Pos} (he : PE X e te) : PE X (.Subscript e (.Slice none none (some (.UnaryOp .USub (.Constant (.int 1) n1 p1) p2)) p3) pos) (tBack X.K te) := by
  refine ⟨fun pins s σ H Q I h => ?_⟩
  refine PyProof.Rows.Subscript_ (thn (he.run pins s σ H _ I h) fun v s1 ⟨x, H1, I1, r1, a, xs, ex, q⟩ => ?_)
  subst ex
  cases r1
  have one : PO X (some (.UnaryOp .USub (.Constant (.int 1) n1 p1) p2)) (tPart (tUn (rU fun i => .int (-i)) (tC (.int 1)))) := po_some (pe_un un_neg pe_int)
  refine wpAny_Slice (thn (po_none.run pins s1 σ H1 (fun o H' => o = none ∧ H' = H1) I1 ⟨rfl, rfl⟩) fun vl s2 ⟨l, H2, I2, pl, el, e2⟩ => ?_)
  subst el
  subst e2
  refine thn (po_none.run pins s2 σ H2 (fun o H' => o = none ∧ H' = H2) I2 ⟨rfl, rfl⟩) fun vu s3 ⟨u, H3, I3, pu, eu, e3⟩ => ?_
  subst eu
  subst e3
  refine thn (one.run pins s3 σ H3 (fun o H' => o = some (-1) ∧ H' = H3) I3 ⟨1, rfl, -1, rfl, rfl, rfl⟩) fun vs s4 ⟨o, H4, I4, ps, eo, e4⟩ => ?_
  subst eo
  subst e4
  cases pl
  cases pu
  have I5 : Inv X pins σ H4 { s4 with heap := s4.heap.push { cls := .type "slice", data := .fields #[.none, .none, vs] } } := I4.kept (t' := s4.toks) fun b ob z => Heap.get?_push_of_some _ z
  show wpAny (model X.prog X.w) X.A (PyProof.Rows.subscriptTail e (.Slice none none (some (.UnaryOp .USub (.Constant (.int 1) n1 p1) p2)) p3) (.ref a) (.ref s4.heap.objs.size)) (EP X pins σ Q) X.xe { s4 with heap := s4.heap.push { cls := .type "slice", data := .fields #[.none, .none, vs] } }
  rcases q with ⟨hx, q⟩ | ⟨hx, q⟩
  · obtain ⟨its, r, ht, hz⟩ := I5.list hx
    have hlen := r.length
    refine PyProof.Rows.tail_any (ops := [.ref a, .ref s4.heap.objs.size]) ht.isList.typeIs PySem.slot_list_getitem.lookup ?_ (by with_unfolding_all rfl)
    refine wpAny_getItem_list_slice ht.isList (Heap.IsSliceOf.new _ .none .none vs) .none .none ps (by decide) ?_ (by rw [List.size_toArray]; omega)
    rw [PySem.W.krv_pick]
    exact ⟨.ref _, _, I5.laid (t' := s4.toks) (o := .lst xs.reverse) (fun b ob z => Heap.get?_push_of_some _ z) (Nat.le_refl _) ⟨by rw [List.length_reverse]; exact hz, _, 0, r.reverse, Heap.get?_push_size _ rfl⟩, rfl, q _ (I5.hok.fresh (Nat.le_refl _))⟩
  · obtain ⟨its, r, ht, hz⟩ := I5.tuple hx
    have hlen := r.length
    obtain ⟨tk, rfl⟩ : ∃ tk, vs = .int (-1) tk := by
      cases ps
      exact ⟨_, rfl⟩
    refine PyProof.Rows.tail_any (ops := [.ref a, .ref s4.heap.objs.size]) ht.typeIs PyProof.Rows.slot_tuple_getitem.lookup ?_ (by with_unfolding_all rfl)
    refine getItem_tuple_back ht ⟨_, Heap.get?_push_size _ rfl, rfl, tk, rfl⟩ ?_ (by omega)
    exact ⟨.ref _, _, I5.laid (t' := s4.toks) (o := .tup xs.reverse) (fun b ob z => Heap.get?_push_of_some _ z) (Nat.le_refl _) ⟨by rw [List.length_reverse]; exact hz, _, r.reverse, PyProof.Rows.IsTup.new _ _⟩, rfl, q _ (I5.hok.fresh (Nat.le_refl _))⟩
def oBack : D1 := fun x R => match x with
  | .d (.tuple ds) => R (.d (.tuple ds.reverse))
  | x => match x.lst with
    | some ds => R (.own ds.reverse)
    | none => False
theorem de_back {n1 : Nat} {p1 p2 p3 : Pos} (he : DE X W e me u) : DE X W (.Subscript e (.Slice none none (some (.UnaryOp .USub (.Constant (.int 1) n1 p1) p2)) p3) pos) (mUn oBack me) u :=
  ⟨PE.imp (pe_back he.pe) fun σ H Q q => by
    obtain ⟨ex, G, F, δ, τ, ts, τ1, ts1, R, n, m, k⟩ := q
    refine ⟨ex, G, F, δ, τ, ts, τ1, ts1, _, n, m, fun x hx v F1 H1 g => ?_⟩
    have hxv := g.top
    match x, hx, hxv, g with
    | .d (.tuple ds), hx, hxv, g =>
      obtain ⟨a, vs, rfl, h2, h3⟩ := tup_of hxv g.fh
      rw [n.k] at h2
      exact ⟨a, vs, rfl, .inr ⟨h2, fun p hp => k _ hx _ _ _ (g.pop.newT hp h3.reverse)⟩⟩
    | .d (.list ds), hx, hxv, g =>
      obtain ⟨a, vs, rfl, h2, h3⟩ := lst_of hxv g.fh rfl
      exact ⟨a, vs, rfl, .inl ⟨SqL.of h2, fun p hp => k _ hx _ _ _ (g.pop.newO hp h3.reverse)⟩⟩
    | .own ds, hx, hxv, g =>
      obtain ⟨a, vs, rfl, h2, h3⟩ := lst_of hxv g.fh rfl
      exact ⟨a, vs, rfl, .inl ⟨SqL.of h2, fun p hp => k _ hx _ _ _ (g.pop.newO hp h3.reverse)⟩⟩
    | .bor ds, hx, hxv, g =>
      obtain ⟨a, vs, rfl, h2, h3⟩ := lst_of hxv g.fh rfl
      exact ⟨a, vs, rfl, .inl ⟨SqL.of h2, fun p hp => k _ hx _ _ _ (g.pop.newO hp h3.reverse)⟩⟩⟩
end
end DL

namespace DL
open PySem PySem.Spec L2

/-! ## built-ins -/
section
variable {u u1 u2 u3 : Nat} {X : Cx} {W : WC} {a b c e : Expr} {es : List Expr} {pos p : Pos} {ma mb me : ME} {mas : MA} {k : Nat}
/-- one argument -/
def o1 (o : D1) : DN := fun xs R => match xs with
  | [x] => o x R
  | _ => False
/-- from a rule over one value -/
theorem on_1 {r : List V → Hp → VK → Prop} {o : D1} (h : ∀ (G : Gm) (F : Hp) (δ : Env) (σ : L2.St) (H : Hp) (v : V) (x : DV) (R : DV → Prop) (Q : VK), G.K = X.K → Good G F δ σ H → VOk G F H v x → o x R →
    (∀ z, R z → ∀ w F' H', Good G F' (δ ++ [some z]) (σ ++ [some w]) H' → Q w H') → r [v] H Q) : OpN X r (o1 o) := by
  intro G F δ σ H vs xs R Q hK hl g ho k
  match xs, ho, hl, g with
  | [x], ho, hl, g =>
    obtain ⟨v, rfl, hv, g'⟩ := one_of hl g
    exact h G F δ σ H v x R Q hK g' hv ho k
theorem on_2 {r : List V → Hp → VK → Prop} {o : D2} (h : ∀ (G : Gm) (F : Hp) (δ : Env) (σ : L2.St) (H : Hp) (v u : V) (x y : DV) (R : DV → Prop) (Q : VK), G.K = X.K → Good G F δ σ H → VOk G F H v x → VOk G F H u y → o x y R →
    (∀ z, R z → ∀ w F' H', Good G F' (δ ++ [some z]) (σ ++ [some w]) H' → Q w H') → r [v, u] H Q) : OpN X r (fun xs R => match xs with | [x, y] => o x y R | _ => False) := by
  intro G F δ σ H vs xs R Q hK hl g ho k
  match xs, ho, hl, g with
  | [x, y], ho, hl, g =>
    obtain ⟨v, u, rfl, hv, hu, g'⟩ := two_of hl g
    exact h G F δ σ H v u x y R Q hK g' hv hu ho k
def o2 (o : D2) : DN := fun xs R => match xs with
  | [x, y] => o x y R
  | _ => False
/-- len -/
def oLen : D1 := fun x R => match x with
  | .d (.str z) => z.length ≤ sizeLine ∧ R (.d (.int z.length))
  | .scr ns => R (.d (.int ns.length))
  | x => match x.seq with
    | some ds => R (.d (.int ds.length))
    | none => False
def rLen (K : PySem.W.Frag) : List V → Hp → VK → Prop := fun xs H Q => (∃ p ys, xs = [.ref p] ∧ (SqL K H p ys ∨ SqT K H p ys) ∧ Q (.int ys.length) H) ∨ ∃ z, xs = [.str z] ∧ z.length ≤ sizeLine ∧ Q (.int z.length) H
theorem cr_len : CallR X (.builtin "len") (rLen X.K) := CallR.or call_len_seq call_len_str
theorem on_len : OpN X (rLen X.K) (o1 oLen) := on_1 fun G F δ σ H v x R Q hK g hx h k => by
  match x, h, hx with
  | .d (.str z), h, hx =>
    cases (show At G.K F v (.str z) from hx)
    exact .inr ⟨z, rfl, h.1, k _ h.2 _ F H (g.pushD (.int _))⟩
  | .scr ns, h, hx =>
    obtain ⟨l, vs, rfl, h1, h2⟩ := rd_of hx g.fh rfl
    rw [hK] at h1
    refine .inl ⟨l, vs, rfl, .inl h1, ?_⟩
    rw [h2.length, List.length_map]
    exact k _ h _ F H (g.pushD (.int _))
  | .d (.list ds), h, hx =>
    obtain ⟨l, vs, rfl, h1, h2⟩ := lst_of hx g.fh rfl
    refine .inl ⟨l, vs, rfl, .inl (SqL.of h1), ?_⟩
    rw [h2.length]
    exact k _ h _ F H (g.pushD (.int _))
  | .d (.tuple ds), h, hx =>
    obtain ⟨l, vs, rfl, h1, h2⟩ := tup_of hx g.fh
    rw [hK] at h1
    refine .inl ⟨l, vs, rfl, .inr h1, ?_⟩
    rw [h2.length]
    exact k _ h _ F H (g.pushD (.int _))
  | .own ds, h, hx =>
    obtain ⟨l, vs, rfl, h1, h2⟩ := lst_of hx g.fh rfl
    refine .inl ⟨l, vs, rfl, .inl (SqL.of h1), ?_⟩
    rw [h2.length]
    exact k _ h _ F H (g.pushD (.int _))
  | .bor ds, h, hx =>
    obtain ⟨l, vs, rfl, h1, h2⟩ := lst_of hx g.fh rfl
    refine .inl ⟨l, vs, rfl, .inl (SqL.of h1), ?_⟩
    rw [h2.length]
    exact k _ h _ F H (g.pushD (.int _))
theorem de_len (hg : Gl X "len") (hm : X.mg "len" = none) (ha : DA X W [e] mas u) (he : starEach [e] X.env = (false, eval e X.env) :: starEach [] X.env := by rfl) (hpl : (backTo pos (starEach [] X.env)).any (·.1) = false := by rfl) :
    DE X W (.Call (.Name "len" p) [e] [] pos) (mCB (o1 oLen) mas) u := de_callB cr_len on_len hg hm PySem.boot_len ha (by decide) (by decide) he hpl
/-- abs, max, min, int -/
def oAbs : D1 := fun x R => match x with
  | .d (.int i) => R (.d (.int (if i < 0 then -i else i)))
  | _ => False
theorem on_abs : OpN X (fun xs H Q => ∃ i, xs = [.int i] ∧ Q (.int (if i < 0 then -i else i)) H) (o1 oAbs) := on_1 fun G F δ σ H v x R Q hK g hx h k => by
  match x, h, hx with
  | .d (.int i), h, hx =>
    cases int_of hx
    exact ⟨i, rfl, k _ h _ F H (g.pushD (.int _))⟩
theorem de_abs (hg : Gl X "abs") (hm : X.mg "abs" = none) (ha : DA X W [e] mas u) (he : starEach [e] X.env = (false, eval e X.env) :: starEach [] X.env := by rfl) (hpl : (backTo pos (starEach [] X.env)).any (·.1) = false := by rfl) :
    DE X W (.Call (.Name "abs" p) [e] [] pos) (mCB (o1 oAbs) mas) u := de_callB call_abs on_abs hg hm (by decide +kernel) ha (by decide) (by decide) he hpl
def oMax2 : D2 := fun x y R => match x, y with
  | .d (.int i), .d (.int j) => R (.d (.int (if j > i then j else i)))
  | _, _ => False
def oMin2 : D2 := fun x y R => match x, y with
  | .d (.int i), .d (.int j) => R (.d (.int (if j < i then j else i)))
  | _, _ => False
theorem on_max2 : OpN X (fun xs H Q => ∃ i j, xs = [.int i, .int j] ∧ Q (.int (if j > i then j else i)) H) (o2 oMax2) := on_2 fun G F δ σ H v u x y R Q hK g hx hy h k => by
  match x, y, h, hx, hy with
  | .d (.int i), .d (.int j), h, hx, hy =>
    cases int_of hx
    cases int_of hy
    exact ⟨i, j, rfl, k _ h _ F H (g.pushD (.int _))⟩
theorem on_min2 : OpN X (fun xs H Q => ∃ i j, xs = [.int i, .int j] ∧ Q (.int (if j < i then j else i)) H) (o2 oMin2) := on_2 fun G F δ σ H v u x y R Q hK g hx hy h k => by
  match x, y, h, hx, hy with
  | .d (.int i), .d (.int j), h, hx, hy =>
    cases int_of hx
    cases int_of hy
    exact ⟨i, j, rfl, k _ h _ F H (g.pushD (.int _))⟩
theorem de_max2 (hc : X.calm = true) (hg : Gl X "max") (hm : X.mg "max" = none) (ha : DA X W [a, b] mas u) (he : starEach [a, b] X.env = (false, eval a X.env) :: starEach [b] X.env := by rfl) (hpl : (backTo pos (starEach [b] X.env)).any (·.1) = false := by rfl) :
    DE X W (.Call (.Name "max" p) [a, b] [] pos) (mCB (o2 oMax2) mas) u := de_callB (call_max2 hc) on_max2 hg hm (by decide +kernel) ha (by decide) (by decide) he hpl
theorem de_min2 (hc : X.calm = true) (hg : Gl X "min") (hm : X.mg "min" = none) (ha : DA X W [a, b] mas u) (he : starEach [a, b] X.env = (false, eval a X.env) :: starEach [b] X.env := by rfl) (hpl : (backTo pos (starEach [b] X.env)).any (·.1) = false := by rfl) :
    DE X W (.Call (.Name "min" p) [a, b] [] pos) (mCB (o2 oMin2) mas) u := de_callB (call_min2 hc) on_min2 hg hm (by decide +kernel) ha (by decide) (by decide) he hpl
def oInt : D1 := fun x R => match x with
  | .d (.int i) => R (.d (.int i))
  | .d (.bool b) => R (.d (.int (if b then 1 else 0)))
  | _ => False
theorem on_int : OpN X (fun xs H Q => (∃ i, xs = [.int i] ∧ Q (.int i) H) ∨ ∃ k, xs = [.bl k] ∧ Q (.int (if k then 1 else 0)) H) (o1 oInt) := on_1 fun G F δ σ H v x R Q hK g hx h k => by
  match x, h, hx with
  | .d (.int i), h, hx =>
    cases int_of hx
    exact .inl ⟨i, rfl, k _ h _ F H (g.pushD (.int _))⟩
  | .d (.bool b), h, hx =>
    cases (show At G.K F v (.bool b) from hx)
    exact .inr ⟨b, rfl, k _ h _ F H (g.pushD (.int _))⟩
theorem de_intC (hg : Gl X "int") (hm : X.mg "int" = none) (ha : DA X W [e] mas u) (he : starEach [e] X.env = (false, eval e X.env) :: starEach [] X.env := by rfl) (hpl : (backTo pos (starEach [] X.env)).any (·.1) = false := by rfl) :
    DE X W (.Call (.Name "int" p) [e] [] pos) (mCB (o1 oInt) mas) u := de_callTy call_int1 on_int hg hm (by decide +kernel) ha (by decide) (by decide) he hpl
/-- tuple(x), list(x) -/
def oTuple : D1 := fun x R => match x with
  | .d (.tuple ds) => R (.d (.tuple ds))
  | x => match x.lst with
    | some ds => R (.d (.tuple ds))
    | none => False
theorem on_tuple : OpN X (fun xs H Q => ∃ p ys, xs = [.ref p] ∧ ((SqL X.K H p ys ∧ ∀ l, H l = none → Q (.ref l) (upd H l (.tup ys))) ∨ (SqT X.K H p ys ∧ Q (.ref p) H))) (o1 oTuple) := on_1 fun G F δ σ H v x R Q hK g hx h k => by
  match x, h, hx with
  | .d (.tuple ds), h, hx =>
    have hxx : At G.K F v (.tuple ds) := hx
    obtain ⟨l, vs, rfl, h1, h2⟩ := tup_of hx g.fh
    rw [hK] at h1
    exact ⟨l, vs, rfl, .inr ⟨h1, k _ h _ F H (g.pushD hxx)⟩⟩
  | .d (.list ds), h, hx =>
    obtain ⟨l, vs, rfl, h1, h2⟩ := lst_of hx g.fh rfl
    exact ⟨l, vs, rfl, .inl ⟨SqL.of h1, fun q hq => k _ h _ _ _ (g.newT hq h2)⟩⟩
  | .own ds, h, hx =>
    obtain ⟨l, vs, rfl, h1, h2⟩ := lst_of hx g.fh rfl
    exact ⟨l, vs, rfl, .inl ⟨SqL.of h1, fun q hq => k _ h _ _ _ (g.newT hq h2)⟩⟩
  | .bor ds, h, hx =>
    obtain ⟨l, vs, rfl, h1, h2⟩ := lst_of hx g.fh rfl
    exact ⟨l, vs, rfl, .inl ⟨SqL.of h1, fun q hq => k _ h _ _ _ (g.newT hq h2)⟩⟩
theorem de_tupleC (hg : Gl X "tuple") (hm : X.mg "tuple" = none) (ha : DA X W [e] mas u) (he : starEach [e] X.env = (false, eval e X.env) :: starEach [] X.env := by rfl) (hpl : (backTo pos (starEach [] X.env)).any (·.1) = false := by rfl) :
    DE X W (.Call (.Name "tuple" p) [e] [] pos) (mCB (o1 oTuple) mas) u := de_callTy call_tuple_of on_tuple hg hm (by decide +kernel) ha (by decide) (by decide) he hpl
def oList : D1 := fun x R => match x.seq with
  | some ds => R (.own ds)
  | none => False
theorem on_list : OpN X (fun xs H Q => ∃ p ys, xs = [.ref p] ∧ (SqL X.K H p ys ∨ SqT X.K H p ys) ∧ ∀ l, H l = none → Q (.ref l) (upd H l (.lst ys))) (o1 oList) := on_1 fun G F δ σ H v x R Q hK g hx h k => by
  match x, h, hx with
  | .d (.tuple ds), h, hx =>
    obtain ⟨l, vs, rfl, h1, h2⟩ := tup_of hx g.fh
    rw [hK] at h1
    exact ⟨l, vs, rfl, .inr h1, fun q hq => k _ h _ _ _ (g.newO hq h2)⟩
  | .d (.list ds), h, hx =>
    obtain ⟨l, vs, rfl, h1, h2⟩ := lst_of hx g.fh rfl
    exact ⟨l, vs, rfl, .inl (SqL.of h1), fun q hq => k _ h _ _ _ (g.newO hq h2)⟩
  | .own ds, h, hx =>
    obtain ⟨l, vs, rfl, h1, h2⟩ := lst_of hx g.fh rfl
    exact ⟨l, vs, rfl, .inl (SqL.of h1), fun q hq => k _ h _ _ _ (g.newO hq h2)⟩
  | .bor ds, h, hx =>
    obtain ⟨l, vs, rfl, h1, h2⟩ := lst_of hx g.fh rfl
    exact ⟨l, vs, rfl, .inl (SqL.of h1), fun q hq => k _ h _ _ _ (g.newO hq h2)⟩
theorem de_listC (hg : Gl X "list") (hm : X.mg "list" = none) (ha : DA X W [e] mas u) (he : starEach [e] X.env = (false, eval e X.env) :: starEach [] X.env := by rfl) (hpl : (backTo pos (starEach [] X.env)).any (·.1) = false := by rfl) :
    DE X W (.Call (.Name "list" p) [e] [] pos) (mCB (o1 oList) mas) u := de_callTy call_list_of on_list hg hm (by decide +kernel) ha (by decide) (by decide) he hpl
/-- list(range(..)) -/
def mLR1 (ma : ME) : ME := fun ex δ R => ma ex δ fun x => match x with
  | .d (.int n) => RgOk 0 n ∧ R (.own (rangeD 0 n.toNat))
  | _ => False
def mLR2 (ma mb : ME) : ME := fun ex δ R => ma ex δ fun x => mb ex δ fun y => match x, y with
  | .d (.int i), .d (.int j) => RgOk i j ∧ R (.own (rangeD i (j - i).toNat))
  | _, _ => False
theorem atL_range {K : PySem.W.Frag} {F : Hp} (i j : Int) : AtL K F (rgV i j) (rangeD i (j - i).toNat) := by
  have : rgV i j = ((List.range (j - i).toNat).map fun n => i + (n : Nat)).map V.int := by unfold rgV; rw [List.map_map]; rfl
  rw [this]
  have e : rangeD i (j - i).toNat = ((List.range (j - i).toNat).map fun n => i + (n : Nat)).map PyData.int := by unfold rangeD; rw [List.map_map]; rfl
  rw [e]
  exact atL_ints _
theorem de_listR1 {q : Pos} (hc : X.calm = true) (hg : Gl X "list") (hm : X.mg "list" = none) (hg' : Gl X "range") (hm' : X.mg "range" = none) (ha : DE X W a ma u)
    (na : starEach [a] X.env = (false, eval a X.env) :: starEach [] X.env := by rfl) (nb : starEach [.Call (.Name "range" q) [a] [] p] X.env = (false, eval (.Call (.Name "range" q) [a] [] p) X.env) :: starEach [] X.env := by rfl) {p' : Pos} :
    DE X W (.Call (.Name "list" p') [.Call (.Name "range" q) [a] [] p] [] pos) (mLR1 ma) u := ⟨PE.imp (pe_listRg hc hg hm (prg_1 hg' hm' ha.pe na) nb) fun σ H Q q => by
  obtain ⟨ex, G, F, δ, τ, ts, τ1, ts1, R, n, m, k⟩ := q
  refine ⟨ex, G, F, δ, τ, ts, τ1, ts1, _, n, m, fun x hx v F1 H1 g => ?_⟩
  match x, hx, g with
  | .d (.int i), hx, g =>
    cases int_of g.top
    refine ⟨i, rfl, hx.1, fun r hr => k _ hx.2 _ _ _ (g.pop.newO hr ?_)⟩
    have := atL_range (K := G.K) (F := F1) 0 i
    rw [Int.sub_zero] at this
    exact this⟩
theorem de_listR2 {q : Pos} (hc : X.calm = true) (hg : Gl X "list") (hm : X.mg "list" = none) (hg' : Gl X "range") (hm' : X.mg "range" = none) (ha : DE X W a ma u1) (hb : DE X W b mb u2)
    (na : starEach [a, b] X.env = (false, eval a X.env) :: starEach [b] X.env := by rfl) (na2 : starEach [b] X.env = (false, eval b X.env) :: starEach [] X.env := by rfl) (hp0 : (backTo p (starEach [b] X.env)).any (·.1) = false := by rfl) (nb : starEach [.Call (.Name "range" q) [a, b] [] p] X.env = (false, eval (.Call (.Name "range" q) [a, b] [] p) X.env) :: starEach [] X.env := by rfl) {p' : Pos} :
    DE X W (.Call (.Name "list" p') [.Call (.Name "range" q) [a, b] [] p] [] pos) (mLR2 ma mb) (u1 + u2) := ⟨PE.imp (pe_listRg hc hg hm (prg_2 hg' hm' ha.pe hb.pe na na2 hp0) nb) fun σ H Q q => by
  obtain ⟨ex, G, F, δ, τ, ts, τ1, ts1, R, n, m, k⟩ := q
  refine ⟨ex, G, F, δ, τ, ts, τ1, ts1, _, n.fst, m, fun x hx v F1 H1 g1 => ?_⟩
  refine ⟨ex, G.up u1, F1, δ, τ, ts, _, _, _, n.after g1, hx, fun y hy u F2 H2 g2 => ?_⟩
  rw [up_up] at g2
  have g : Good (G.up (u1 + u2)) F2 (δ ++ τ ++ τ1 ++ [some x] ++ [some y]) (σ ++ ts ++ ts1 ++ [some v] ++ [some u]) H2 := by simpa only [List.append_assoc] using g2
  match x, y, hy, g with
  | .d (.int i), .d (.int j), hy, g =>
    cases int_of g.top
    cases int_of g.pop.top
    exact ⟨i, j, rfl, rfl, hy.1, fun r hr => k _ hy.2 _ _ _ (g.pop.pop.newO hr (atL_range i j))⟩⟩
/-- lists of numbers, of bools -/
def intsOf : List PyData → Option (List Int)
  | [] => some []
  | .int i :: r => (intsOf r).map (i :: ·)
  | _ :: _ => none
def boolsOf : List PyData → Option (List Bool)
  | [] => some []
  | .bool i :: r => (boolsOf r).map (i :: ·)
  | _ :: _ => none
theorem intsOf_map : ∀ ns : List Int, intsOf (ns.map PyData.int) = some ns
  | [] => rfl
  | n :: ns => by simp [intsOf, intsOf_map ns]
theorem boolsOf_map : ∀ ns : List Bool, boolsOf (ns.map PyData.bool) = some ns
  | [] => rfl
  | n :: ns => by simp [boolsOf, boolsOf_map ns]
theorem intsOf_eq : ∀ {ds : List PyData} {ns : List Int}, intsOf ds = some ns → ds = ns.map PyData.int
  | [], ns, e => by cases e; rfl
  | .int i :: r, ns, e => by
    simp only [intsOf, Option.map_eq_some_iff] at e
    obtain ⟨m, h, rfl⟩ := e
    rw [intsOf_eq h]
    rfl
theorem boolsOf_eq : ∀ {ds : List PyData} {ns : List Bool}, boolsOf ds = some ns → ds = ns.map PyData.bool
  | [], ns, e => by cases e; rfl
  | .bool i :: r, ns, e => by
    simp only [boolsOf, Option.map_eq_some_iff] at e
    obtain ⟨m, h, rfl⟩ := e
    rw [boolsOf_eq h]
    rfl
def oInts (o : List Int → (DV → Prop) → Prop) : D1 := fun x R => match x.lst with
  | some ds => match intsOf ds with
    | some ns => o ns R
    | none => False
  | none => False
theorem ints_of {G : Gm} {F H : Hp} {v : V} {x : DV} {o : List Int → (DV → Prop) → Prop} {R : DV → Prop} (hx : VOk G F H v x) (hf : Same F H) (h : oInts o x R) : ∃ l ns, v = .ref l ∧ H l = some (.lst (ns.map V.int)) ∧ o ns R := by
  unfold oInts at h
  split at h
  · rename_i ds e
    split at h
    · rename_i ns e2
      obtain ⟨l, vs, rfl, h1, h2⟩ := lst_of hx hf e
      rw [intsOf_eq e2] at h2
      have := h2.ints
      subst this
      exact ⟨l, ns, rfl, h1, h⟩
    · exact h.elim
  · exact h.elim
def isort (ns : List Int) : List Int := ns.mergeSort fun a b => decide (a ≤ b)
theorem isort_of {ns ms : List Int} (hp : ms.Perm ns) (hs : ms.Pairwise (· ≤ ·)) : ms = isort ns := by
  have h1 : (isort ns).Perm ns := List.mergeSort_perm _ _
  have h2 : (isort ns).Pairwise (· ≤ ·) := by
    have := List.pairwise_mergeSort (le := fun a b : Int => decide (a ≤ b)) (fun a b c h1 h2 => by simp at *; omega) (fun a b => by simp; omega) ns
    exact this.imp fun h => by simpa using h
  exact List.Perm.eq_of_pairwise (fun a b _ _ h1 h2 => Int.le_antisymm h1 h2) hs h2 (hp.trans h1.symm)
def oSorted : D1 := oInts fun ns R => R (.own ((isort ns).map .int))
theorem on_sorted : OpN X (rSortedI X.K) (o1 oSorted) := on_1 fun G F δ σ H v x R Q hK g hx h k => by
  obtain ⟨l, ns, rfl, h1, hR⟩ := ints_of hx g.fh h
  refine ⟨l, ns, rfl, SqL.of h1, fun ns' q hp hs hq => ?_⟩
  rw [isort_of hp hs]
  exact k _ hR _ _ _ (g.newO hq (atL_ints _))
theorem de_sorted (hg : Gl X "sorted") (hm : X.mg "sorted" = none) (ha : DA X W [e] mas u) (he : starEach [e] X.env = (false, eval e X.env) :: starEach [] X.env := by rfl) (hpl : (backTo pos (starEach [] X.env)).any (·.1) = false := by rfl) :
    DE X W (.Call (.Name "sorted" p) [e] [] pos) (mCB (o1 oSorted) mas) u := de_callB cr_sortedI on_sorted hg hm (by decide +kernel) ha (by decide) (by decide) he hpl
def oSum : D1 := oInts fun ns R => R (.d (.int ns.sum))
theorem on_sum : OpN X (rSum X.K) (o1 oSum) := on_1 fun G F δ σ H v x R Q hK g hx h k => by
  obtain ⟨l, ns, rfl, h1, hR⟩ := ints_of hx g.fh h
  exact ⟨l, ns, rfl, SqL.of h1, k _ hR _ F H (g.pushD (.int _))⟩
theorem de_sum (hc : X.calm = true) (hg : Gl X "sum") (hm : X.mg "sum" = none) (ha : DA X W [e] mas u) (he : starEach [e] X.env = (false, eval e X.env) :: starEach [] X.env := by rfl) (hpl : (backTo pos (starEach [] X.env)).any (·.1) = false := by rfl) :
    DE X W (.Call (.Name "sum" p) [e] [] pos) (mCB (o1 oSum) mas) u := de_callB (cr_sum hc) on_sum hg hm (by decide +kernel) ha (by decide) (by decide) he hpl
def oMax : D1 := oInts fun ns R => 0 < ns.length ∧ ∀ m, m ∈ ns → (∀ y, y ∈ ns → y ≤ m) → R (.d (.int m))
theorem on_max : OpN X (rMax X.K) (o1 oMax) := on_1 fun G F δ σ H v x R Q hK g hx h k => by
  obtain ⟨l, ns, rfl, h1, hR⟩ := ints_of hx g.fh h
  exact ⟨l, ns, rfl, SqL.of h1, hR.1, fun m hm hy => k _ (hR.2 m hm hy) _ F H (g.pushD (.int _))⟩
theorem de_max (hc : X.calm = true) (hg : Gl X "max") (hm : X.mg "max" = none) (ha : DA X W [e] mas u) (he : starEach [e] X.env = (false, eval e X.env) :: starEach [] X.env := by rfl) (hpl : (backTo pos (starEach [] X.env)).any (·.1) = false := by rfl) :
    DE X W (.Call (.Name "max" p) [e] [] pos) (mCB (o1 oMax) mas) u := de_callB (cr_max hc) on_max hg hm (by decide +kernel) ha (by decide) (by decide) he hpl
def oMin : D1 := oInts fun ns R => 0 < ns.length ∧ ∀ m, m ∈ ns → (∀ y, y ∈ ns → m ≤ y) → R (.d (.int m))
theorem on_min : OpN X (rMin X.K) (o1 oMin) := on_1 fun G F δ σ H v x R Q hK g hx h k => by
  obtain ⟨l, ns, rfl, h1, hR⟩ := ints_of hx g.fh h
  exact ⟨l, ns, rfl, SqL.of h1, hR.1, fun m hm hy => k _ (hR.2 m hm hy) _ F H (g.pushD (.int _))⟩
theorem de_min (hc : X.calm = true) (hg : Gl X "min") (hm : X.mg "min" = none) (ha : DA X W [e] mas u) (he : starEach [e] X.env = (false, eval e X.env) :: starEach [] X.env := by rfl) (hpl : (backTo pos (starEach [] X.env)).any (·.1) = false := by rfl) :
    DE X W (.Call (.Name "min" p) [e] [] pos) (mCB (o1 oMin) mas) u := de_callB (cr_min hc) on_min hg hm (by decide +kernel) ha (by decide) (by decide) he hpl
def oBools (f : List Bool → Bool) : D1 := fun x R => match x.lst with
  | some ds => match boolsOf ds with
    | some bs => R (.d (.bool (f bs)))
    | none => False
  | none => False
theorem bools_of {G : Gm} {F H : Hp} {v : V} {x : DV} {f : List Bool → Bool} {R : DV → Prop} (hx : VOk G F H v x) (hf : Same F H) (h : oBools f x R) : ∃ l bs, v = .ref l ∧ H l = some (.lst (bs.map V.bl)) ∧ R (.d (.bool (f bs))) := by
  unfold oBools at h
  split at h
  · rename_i ds e
    split at h
    · rename_i bs e2
      obtain ⟨l, vs, rfl, h1, h2⟩ := lst_of hx hf e
      rw [boolsOf_eq e2] at h2
      have := h2.bls
      subst this
      exact ⟨l, bs, rfl, h1, h⟩
    · exact h.elim
  · exact h.elim
theorem on_any : OpN X (rAny X.K) (o1 (oBools fun bs => bs.any id)) := on_1 fun G F δ σ H v x R Q hK g hx h k => by
  obtain ⟨l, bs, rfl, h1, hR⟩ := bools_of hx g.fh h
  exact ⟨l, bs, rfl, SqL.of h1, k _ hR _ F H (g.pushD (.bl _))⟩
theorem on_all : OpN X (rAll X.K) (o1 (oBools fun bs => bs.all id)) := on_1 fun G F δ σ H v x R Q hK g hx h k => by
  obtain ⟨l, bs, rfl, h1, hR⟩ := bools_of hx g.fh h
  exact ⟨l, bs, rfl, SqL.of h1, k _ hR _ F H (g.pushD (.bl _))⟩
theorem de_any (hc : X.calm = true) (hg : Gl X "any") (hm : X.mg "any" = none) (ha : DA X W [e] mas u) (he : starEach [e] X.env = (false, eval e X.env) :: starEach [] X.env := by rfl) (hpl : (backTo pos (starEach [] X.env)).any (·.1) = false := by rfl) :
    DE X W (.Call (.Name "any" p) [e] [] pos) (mCB (o1 (oBools fun bs => bs.any id)) mas) u := de_callB (cr_any hc) on_any hg hm (by decide +kernel) ha (by decide) (by decide) he hpl
theorem de_all (hc : X.calm = true) (hg : Gl X "all") (hm : X.mg "all" = none) (ha : DA X W [e] mas u) (he : starEach [e] X.env = (false, eval e X.env) :: starEach [] X.env := by rfl) (hpl : (backTo pos (starEach [] X.env)).any (·.1) = false := by rfl) :
    DE X W (.Call (.Name "all" p) [e] [] pos) (mCB (o1 (oBools fun bs => bs.all id)) mas) u := de_callB (cr_all hc) on_all hg hm (by decide +kernel) ha (by decide) (by decide) he hpl
/-! ### isinstance of data -/
def tyN : PyData → String
  | .none => "NoneType"
  | .bool _ => "bool"
  | .int _ => "int"
  | .str _ => "str"
  | .list _ => "list"
  | .tuple _ => "tuple"
  | .dict _ => "dict"
def isTy : PyData → String → Bool
  | .none, _ => false
  | .bool _, T => T == "bool" || T == "int"
  | .int _, T => T == "int"
  | .str _, T => T == "str"
  | .list _, T => T == "list"
  | .tuple _, T => T == "tuple"
  | .dict _, T => T == "dict"
def tys : List String := ["int", "bool", "str", "tuple", "list", "dict"]
theorem kit_all : ∀ T ∈ tys, kitB "NoneType" T = some false ∧ kitB "bool" T = some (T == "bool" || T == "int") ∧ kitB "int" T = some (T == "int") ∧ kitB "str" T = some (T == "str") ∧ kitB "list" T = some (T == "list") ∧ kitB "tuple" T = some (T == "tuple") ∧ kitB "dict" T = some (T == "dict") := by decide +kernel
theorem kit_is {T : String} (h : T ∈ tys) (d : PyData) : kitB (tyN d) T = some (isTy d T) := by
  obtain ⟨h1, h2, h3, h4, h5, h6, h7⟩ := kit_all T h
  cases d with
  | none => exact h1
  | bool _ => exact h2
  | int _ => exact h3
  | str _ => exact h4
  | list _ => exact h5
  | tuple _ => exact h6
  | dict _ => exact h7
theorem ty_of {K : PySem.W.Frag} {H : Hp} {v : V} {d : PyData} (h : Da K H v d) : TyX K H v (.type (tyN d)) := by
  obtain ⟨F, hF, h⟩ := h
  cases h with
  | non => exact .base .non
  | bl b => exact .base (.bl b)
  | int i => exact .base (.int i)
  | str x => exact .base (.str x)
  | lst hs _ => exact .base (.lst (hF _ _ hs))
  | dct hs _ =>
    rcases hs with hs | ⟨o, hs⟩
    · exact .base (.dK (hF _ _ hs))
    · exact .fDict (hF _ _ hs)
  | tup hs _ =>
    rcases hs with (hs | ⟨o, hs⟩) | ⟨o, its, n, h1, h2, _⟩
    · exact .base (.tup (hF _ _ hs))
    · exact .fTuple (hF _ _ hs)
    · exact .kTuple h1 h2
def oIsi : D2 := fun x y R => match x.pd, y with
  | some d, .raw (.ty T) => T ∈ tys ∧ R (.d (.bool (isTy d T)))
  | _, _ => False
theorem on_isi : OpN X (rIsi X.K) (o2 oIsi) := on_2 fun G F δ σ H v u x y R Q hK g hx hy h k => by
  unfold oIsi at h
  split at h
  · rename_i d T e
    have hd := pd_da hx g.fh e
    rw [hK] at hd
    have hu : u = .ty T := hy
    subst hu
    exact ⟨v, .ty T, _, _, _, rfl, .ty T, ty_of hd, kit_ty (kit_is h.1 d), k _ h.2 _ F H (g.pushD (.bl _))⟩
  · exact h.elim
theorem de_isi (hg : Gl X "isinstance") (hm : X.mg "isinstance" = none) (ha : DA X W [a, b] mas u) (he : starEach [a, b] X.env = (false, eval a X.env) :: starEach [b] X.env := by rfl) (hpl : (backTo pos (starEach [b] X.env)).any (·.1) = false := by rfl) :
    DE X W (.Call (.Name "isinstance" p) [a, b] [] pos) (mCB (o2 oIsi) mas) u := de_callB call_isi on_isi hg hm (by decide +kernel) ha (by decide) (by decide) he hpl
/-! ### repr of data -/
def rRepr (K : PySem.W.Frag) : List V → Hp → VK → Prop := fun xs H Q => ∃ x d, xs = [x] ∧ Da K H x d ∧ d.hasDict = false ∧ d.showable = true ∧ d.shown.length ≤ sizeLine ∧ d.depth ≤ 30 ∧ Q (.str d.shown) H
theorem cr_repr (hg : X.A.guards = some []) (hu : X.A.units + 64 < cLine) : CallR X (.builtin "repr") (rRepr X.K) := by
  intro pins s σ H xs us Q I r ⟨x, d, e, ⟨F, hF, hd⟩, nd, hs, hz, hdp, q⟩
  subst e
  obtain ⟨u, rfl, ru⟩ := vals1 r
  obtain ⟨as, hr⟩ := At.reads I hF d x u nd hd ru
  match d, hd, hs, hz, q, hr, hdp with
  | .none, hd, hs, hz, q, hr, _ =>
    cases hr
    simp only [PyData.shown] at q
    exact PySem.P.repr_of_none ⟨.str "None", H, I.tok _, ⟨_, rfl⟩, q⟩
  | .bool b, hd, hs, hz, q, hr, _ =>
    cases hr
    simp only [PyData.shown] at q
    exact PySem.P.repr_of_bool ⟨.str _, H, I.tok _, ⟨_, rfl⟩, q⟩
  | .int i, hd, hs, hz, q, hr, _ =>
    cases hr
    simp only [PyData.shown] at q
    exact PySem.P.repr_of_int (by simpa [PyData.showable] using hs) ⟨.str _, H, I.tok _, ⟨_, rfl⟩, q⟩
  | .str z, hd, hs, hz, q, hr, _ =>
    cases hr
    simp only [PyData.shown] at q hz
    exact PySem.P.repr_of_str ⟨.str _, H, I.tok _, ⟨_, rfl⟩, q⟩ hz
  | .list ds, hd, hs, hz, q, hr, hdp =>
    obtain ⟨w, rfl⟩ : ∃ w, u = .ref w := by cases hr; exact ⟨_, rfl⟩
    refine repr_of_reads' hr hs (PyData.noDict_hsm nd) hg (by omega) (fun _ _ e => e) (fun h' t tk hk => ?_) hz
    exact ⟨.str _, H, I.kept hk, ⟨_, rfl⟩, q⟩
  | .tuple ds, hd, hs, hz, q, hr, hdp =>
    obtain ⟨w, rfl⟩ : ∃ w, u = .ref w := by cases hr; exact ⟨_, rfl⟩
    refine repr_of_reads' hr hs (PyData.noDict_hsm nd) hg (by omega) (fun _ _ e => e) (fun h' t tk hk => ?_) hz
    exact ⟨.str _, H, I.kept hk, ⟨_, rfl⟩, q⟩
  | .dict _, hd, hs, hz, q, hr, hdp => simp only [PyData.hasDict] at nd; cases nd
/-- what repr may be asked of -/
def Shows (d : PyData) : Prop := d.hasDict = false ∧ d.showable = true ∧ d.shown.length ≤ sizeLine ∧ d.depth ≤ 30
def oRepr : D1 := fun x R => match x.pd with
  | some d => Shows d ∧ R (.d (.str d.shown))
  | none => False
theorem on_repr : OpN X (rRepr X.K) (o1 oRepr) := on_1 fun G F δ σ H v x R Q hK g hx h k => by
  unfold oRepr at h
  split at h
  · rename_i d e
    have hd := pd_da hx g.fh e
    rw [hK] at hd
    obtain ⟨⟨h1, h2, h3, h4⟩, hR⟩ := h
    exact ⟨v, d, rfl, hd, h1, h2, h3, h4, k _ hR _ F H (g.pushD (.str _))⟩
  · exact h.elim
theorem de_repr (cx : CtxU X) (hg : Gl X "repr") (hm : X.mg "repr" = none) (ha : DA X W [e] mas u) (he : starEach [e] X.env = (false, eval e X.env) :: starEach [] X.env := by rfl) (hpl : (backTo pos (starEach [] X.env)).any (·.1) = false := by rfl) :
    DE X W (.Call (.Name "repr" p) [e] [] pos) (mCB (o1 oRepr) mas) u := de_callB (cr_repr cx.gd cx.u64) on_repr hg hm (by decide +kernel) ha (by decide) (by decide) he hpl
end
end DL

namespace DL
open PySem PySem.Spec L2

/-! ## lists of one's own, changed -/
section
variable {u u1 u2 u3 : Nat} {X : Cx} {W : WC} {a b c e : Expr} {es : List Expr} {pos p : Pos} {ma mb me mi : ME} {mas : MA} {k : Nat}
/-- a method that changes a list: from the items and the arguments, what it hands back and the items behind it -/
abbrev Mut := List PyData → List PyData → Option (PyData × List PyData)
def MutOk (K : PySem.W.Frag) (r : V → List V → Hp → VK → Prop) (o : Mut) : Prop := ∀ (F : Hp) (l : Addr) (ws : List V) (xs : List PyData) (vs : List V) (ds : List PyData) (H : Hp) (Q : VK) (res : PyData) (xs' : List PyData), Same F H → H l = some (.lst ws) → AtL K F ws xs → AtL K F vs ds → o xs ds = some (res, xs') →
  (∀ u ws', At K F u res → AtL K F ws' xs' → Q u (upd H l (.lst ws'))) → r (.ref l) vs H Q
def uApp : Mut := fun xs ds => match ds with
  | [d] => if xs.length < sizeLine then some (.none, xs ++ [d]) else none
  | _ => none
theorem mut_app {K : PySem.W.Frag} : MutOk K rAppend uApp := by
  intro F l ws xs vs ds H Q res xs' hF hl ha hv e k
  unfold uApp at e
  split at e
  · cases hv with
    | cons h1 h2 =>
      cases h2
      split at e
      · rename_i hz
        cases e
        exact ⟨l, ws, _, rfl, rfl, hl, by rw [ha.length]; exact hz, k _ _ .non (ha.append (.cons h1 .nil))⟩
      · cases e
  · cases e
def uPop : Mut := fun xs ds => match ds, xs[xs.length - 1]? with
  | [], some d => some (d, xs.dropLast)
  | _, _ => none
theorem AtL.dropLast {K : PySem.W.Frag} {F : Hp} {vs : List V} {ds : List PyData} (h : AtL K F vs ds) : AtL K F vs.dropLast ds.dropLast := by
  rw [List.dropLast_eq_take, List.dropLast_eq_take, h.length]
  exact h.take _
theorem mut_pop {K : PySem.W.Frag} : MutOk K rPop uPop := by
  intro F l ws xs vs ds H Q res xs' hF hl ha hv e k
  unfold uPop at e
  split at e
  · rename_i d hd
    cases hv
    cases e
    rw [← ha.length] at hd
    obtain ⟨v, h1, h2⟩ := ha.get hd
    exact ⟨l, ws, v, rfl, rfl, hl, h1, k _ _ h2 ha.dropLast⟩
  · cases e
def uPopAt : Mut := fun xs ds => match ds with
  | [.int i] => match seqIndex? i xs.length with
    | some j => match xs[j]? with
      | some d => if -(2 ^ 63) ≤ i ∧ i < 2 ^ 63 then some (d, xs.eraseIdx j) else none
      | none => none
    | none => none
  | _ => none
theorem mut_popAt {K : PySem.W.Frag} : MutOk K rPopAt uPopAt := by
  intro F l ws xs vs ds H Q res xs' hF hl ha hv e k
  unfold uPopAt at e
  split at e
  · rename_i i
    split at e
    · rename_i j ej
      split at e
      · rename_i d hd
        split at e
        · rename_i hb
          cases hv with
          | cons h1 h2 =>
            cases h2
            cases h1
            cases e
            obtain ⟨v, q1, q2⟩ := ha.get hd
            exact ⟨l, ws, i, j, v, rfl, rfl, hl, hb.1, hb.2, by rw [ha.length]; exact ej, q1, k _ _ q2 (ha.eraseIdx j)⟩
        · cases e
      · cases e
    · cases e
  · cases e
def uExt : Mut := fun xs ds => match ds with
  | [.list zs] => if xs.length + zs.length ≤ sizeLine then some (.none, xs ++ zs) else none
  | _ => none
theorem mut_ext {K : PySem.W.Frag} : MutOk K rExtend uExt := by
  intro F l ws xs vs ds H Q res xs' hF hl ha hv e k
  unfold uExt at e
  split at e
  · rename_i zs
    cases hv with
    | cons h1 h2 =>
      cases h2
      cases h1 with
      | @lst b ys _ hb hy =>
        split at e
        · rename_i hz
          cases e
          exact ⟨l, b, ws, ys, rfl, rfl, hl, hF _ _ hb, by rw [ha.length, hy.length]; exact hz, k _ _ .non (ha.append hy)⟩
        · cases e
  · cases e
/-- the arguments of such a method -/
def mutRun (o : Mut) (i : Nat) (δ : Env) (as : List DV) (R : PyData → Env → Prop) : Prop := match δ[i]? with
  | some (some (.own xs)) => match vals as with
    | some ds => match o xs ds with
      | some (res, xs') => R res (δ.set i (some (.own xs')))
      | none => False
    | none => False
  | _ => False
theorem mut_lift {r : V → List V → Hp → VK → Prop} {o : Mut} {G : Gm} (ho : MutOk G.K r o) {F : Hp} {δ τ : Env} {σ ts : L2.St} {H : Hp} {i : Nat} {as : List DV} {vs : List V} {R : PyData → Env → Prop} {Q : VK} {v : V} (nb : NoBor (δ ++ τ)) (l1 : δ.length = σ.length) (hl : as.length = vs.length)
    (g : Good G F (δ ++ τ ++ as.map some) (σ ++ ts ++ vs.map some) H) (hi : σ[i]? = some (some v)) (h : mutRun o i δ as R) (hQ : ∀ res δ', R res δ' → ∀ u F' H', δ'.length = δ.length → NoBor (δ' ++ τ) → Good G F' (δ' ++ τ ++ [some (.d res)]) (σ ++ ts ++ [some u]) H' → Q u H') : r v vs H Q := by
  unfold mutRun at h
  split at h
  · rename_i xs e
    have hiL : i < δ.length := (List.getElem?_eq_some_iff.mp e).1
    split at h
    · rename_i ds ev
      split at h
      · rename_i res xs' eo
        obtain ⟨F2, s2, g2⟩ := fix_all as g ev
        have hd : ds.length = vs.length := (vals_len ev).trans hl
        have hav := atL_of hd g2
        have g3 := g2.cut (by simpa using hd)
        obtain ⟨w, ew, l, ws, rfl, h1, h2, _⟩ := g3.get (i := i) (dv := .own xs) (by rw [List.getElem?_append_left hiL]; exact e)
        rw [List.getElem?_append_left (by omega), hi] at ew
        cases ew
        refine ho F2 l ws xs vs ds H Q res xs' g3.fh h1 h2 hav eo fun u ws' hu hws => ?_
        have g4 := g3.write nb (n := i) (xs := xs) (ys := xs') (l := l) (ws := ws') (by rw [List.getElem?_append_left hiL]; exact e) (by rw [List.getElem?_append_left (by omega)]; exact hi) hws
        rw [List.set_append_left _ _ hiL] at g4
        refine hQ res _ h u F2 _ (by simp) ?_ (g4.pushD hu)
        rw [← List.set_append_left _ _ hiL]
        exact noBor_set nb rfl
      · exact h.elim
    · exact h.elim
  · exact h.elim
theorem own_ref {G : Gm} {F : Hp} {δ A : Env} {σ A' : L2.St} {H : Hp} {i : Nat} {xs : List PyData} (l1 : δ.length = σ.length) (g : Good G F (δ ++ A) (σ ++ A') H) (e : δ[i]? = some (some (.own xs))) : ∃ l ws, σ[i]? = some (some (.ref l)) ∧ H l = some (.lst ws) := by
  have hiL : i < δ.length := (List.getElem?_eq_some_iff.mp e).1
  obtain ⟨w, ew, l, ws, rfl, h1, _⟩ := g.get (i := i) (dv := .own xs) (by rw [List.getElem?_append_left hiL]; exact e)
  rw [List.getElem?_append_left (by omega)] at ew
  exact ⟨l, ws, ew, h1⟩
def isOwnAt (δ : Env) (i : Nat) : Prop := match δ[i]? with
  | some (some (.own _)) => True
  | _ => False
theorem isOwn_some {δ : Env} {i : Nat} (h : isOwnAt δ i) : ∃ xs, δ[i]? = some (some (.own xs)) := by
  unfold isOwnAt at h
  split at h
  · exact ⟨_, by assumption⟩
  · exact h.elim
def mMut (i : Nat) (o : Mut) (t : MA) : MS := fun ex E δ => isOwnAt δ i ∧ t ex δ fun as => mutRun o i δ as fun _ δ' => E.nx δ'
def mMutTo (j i : Nat) (o : Mut) (t : MA) : MS := fun ex E δ => isOwnAt δ i ∧ t ex δ fun as => mutRun o i δ as fun res δ' => gN j (.d res) δ' E.nx
theorem setTop2 {G : Gm} {F : Hp} {δ τ : Env} {σ ts : L2.St} {H : Hp} {j : Nat} {x : DV} {u : V} (l1 : δ.length = σ.length) (hj : j < δ.length) (g : Good G F (δ ++ τ ++ [some x]) (σ ++ ts ++ [some u]) H) : Good G F (δ.set j (some x) ++ τ) (σ.set j (some u) ++ ts) H := by
  have := g.setTop (i := j) (by simp; omega)
  rw [List.set_append_left _ _ hj, List.set_append_left _ _ (by omega)] at this
  exact this
variable {x : Str} {p1 ap cp : Pos} {m id : Str}
theorem tyL {K : PySem.W.Frag} {H : Hp} {l : Addr} {ws : List V} (h : H l = some (.lst ws)) : tyV K "list" (.ref l) H := .inl ⟨rfl, ws, SqL.of h⟩
theorem bm_lift {i : Nat} {o : Mut} {r : V → List V → Hp → VK → Prop} (ho : MutOk X.K r o) {D : Ends} {σ : L2.St} {H : Hp} {ex : XD} {G : Gm} {F : Hp} {δ τ : Env} {ts : L2.St} (n : Now X.K X.mg W u1 ex G F δ σ τ ts [] [] H) (nb : NoBor (δ ++ τ)) {R : PyData → Env → Prop} {Q : VK}
    (h : isOwnAt δ i ∧ mas ex δ fun as => mutRun o i δ as R) (hQ : ∀ res δ', R res δ' → ∀ u F' H', δ'.length = δ.length → NoBor (δ' ++ τ) → Good (G.up u1) F' (δ' ++ τ ++ [some (.d res)]) (σ ++ ts ++ [some u]) H' → Q u H') :
    tBM X.K "list" r (tVar i) (liftA X.K X.mg W u1 mas) σ H Q := by
  obtain ⟨ho1, ha⟩ := h
  obtain ⟨xs, e⟩ := isOwn_some ho1
  obtain ⟨l, ws, el, hw⟩ := own_ref n.l1 n.g0 e
  refine ⟨.ref l, el, tyL hw, ex, G, F, δ, τ, ts, [], [], _, n, ha, fun as has vs F1 H1 hl g1 => ?_⟩
  exact mut_lift (by have e : (G.up u1).K = X.K := n.k; rw [e]; exact ho) nb n.l1 hl (by simpa using g1) el has hQ
theorem bm_lift0 {i : Nat} {o : Mut} {r : V → List V → Hp → VK → Prop} (ho : MutOk X.K r o) {σ : L2.St} {H : Hp} {ex : XD} {G : Gm} {F : Hp} {δ τ : Env} {ts : L2.St} (n : Now X.K X.mg W 0 ex G F δ σ τ ts [] [] H) (nb : NoBor (δ ++ τ)) {R : PyData → Env → Prop} {Q : VK}
    (h : isOwnAt δ i ∧ mNil ex δ fun as => mutRun o i δ as R) (hQ : ∀ res δ', R res δ' → ∀ u F' H', δ'.length = δ.length → NoBor (δ' ++ τ) → Good (G.up 0) F' (δ' ++ τ ++ [some (.d res)]) (σ ++ ts ++ [some u]) H' → Q u H') :
    tBM0 X.K "list" r (tVar i) σ H Q := by
  obtain ⟨ho1, ha⟩ := h
  obtain ⟨xs, e⟩ := isOwn_some ho1
  obtain ⟨l, ws, el, hw⟩ := own_ref n.l1 n.g0 e
  refine ⟨.ref l, el, tyL hw, ?_⟩
  exact mut_lift (by rw [n.k]; exact ho) nb n.l1 (as := []) (vs := []) rfl (by simpa using n.g0.later 0) el ha hQ
theorem drop_end {D : Ends} {σ : L2.St} {G : Gm} {δ τ : Env} {ts : L2.St} {E : DEnds} {u1 : Nat} (l1 : δ.length = σ.length) (eo : EndsOk G u1 τ ts E D) : ∀ (res : PyData) δ', E.nx δ' → ∀ u F' H', δ'.length = δ.length → NoBor (δ' ++ τ) → Good (G.up u1) F' (δ' ++ τ ++ [some (.d res)]) (σ ++ ts ++ [some u]) H' → D.nx σ H' :=
  fun res δ' h u F' H' hl nb g => eo.nx δ' h u1 σ F' H' (Nat.le_refl _) (hl.trans l1) nb g.pop
theorem set_end {D : Ends} {σ : L2.St} {G : Gm} {δ τ : Env} {ts : L2.St} {E : DEnds} {j u1 : Nat} (l1 : δ.length = σ.length) (eo : EndsOk G u1 τ ts E D) : ∀ (res : PyData) δ', gN j (.d res) δ' E.nx → ∀ u F' H', δ'.length = δ.length → NoBor (δ' ++ τ) → Good (G.up u1) F' (δ' ++ τ ++ [some (.d res)]) (σ ++ ts ++ [some u]) H' → D.nx (σ.set j (some u)) H' :=
  fun res δ' ⟨_, hj, h⟩ u F' H' hl nb g => eo.nx _ h u1 _ F' H' (Nat.le_refl _) (by simp [hl, l1]) (by rw [← List.set_append_left _ _ hj]; exact noBor_set nb rfl) (setTop2 (hl.trans l1) hj g)
/-- x.m(e, ..) of a list of one's own -/
theorem ds_mut {i : Nat} {o : Mut} {r : V → List V → Hp → VK → Prop} {name : Str} {id : String} (slot : Slot "list" name id) (hty : typeOf (.builtin id) = pure (.type "method_descriptor")) (hm : MtR X id r) (ho : MutOk X.K r o) (hv : PE X (.Name x p1) (tVar i)) (ha : DA X W (e :: es) mas u1)
    (hbase : attributeBase (.Name x p1) name X.env (eval (.Name x p1) X.env) = eval (.Name x p1) X.env := by rfl)
    (hfew : ((backTo cp (starEach (e :: es) X.env)).all (fun x => !x.1) && (backToKw cp (keywordEach [] X.env)).all (fun x => x.1.isSome)
      && decide ((e :: es).length + ([] : List Keyword).length + (if ([] : List Keyword).isEmpty then 0 else 1) < 30)) = true := by rfl)
    (hline : (ap.endLine == cp.line) = true := by rfl) (hs : starEach (e :: es) X.env = (false, eval e X.env) :: starEach es X.env := by rfl) (hplain : (backTo cp (starEach es X.env)).any (·.1) = false := by rfl) (hsw : swapsWith (.Call (.Attribute (.Name x p1) name ap) (e :: es) [] cp) none pos.line X.env = pure false := by rfl) :
    DS X W (.Expr (.Call (.Attribute (.Name x p1) name ap) (e :: es) [] cp) pos) (mMut i o mas) u1 :=
  ⟨PS.imp (ps_expr (pe_bm PySem.F.plainAttrs_list slot hty hm hv ha.pa hbase hfew hline hs hplain) hsw) fun D σ H q => by
    obtain ⟨ex, G, F, δ, τ, ts, E, n, nb, eo, h⟩ := q
    exact bm_lift (D := D) (Q := fun _ H1 => D.nx σ H1) ho n nb h (drop_end n.l1 eo)⟩
/-- y = x.m() -/
theorem ds_mutTo0 {i j : Nat} {o : Mut} {r : V → List V → Hp → VK → Prop} {name y : Str} {id : String} {p2 : Pos} (slot : Slot "list" name id) (hty : typeOf (.builtin id) = pure (.type "method_descriptor")) (hm : MtR X id r) (ho : MutOk X.K r o) (hv : PE X (.Name x p1) (tVar i))
    (hN : X.N.Nodup) (hj : X.N[j]? = some y) (hy : Loc X.env.scope y) (hbase : attributeBase (.Name x p1) name X.env (eval (.Name x p1) X.env) = eval (.Name x p1) X.env := by rfl) (hline : (ap.endLine == cp.line) = true := by rfl)
    (hs : swapsWith (.Call (.Attribute (.Name x p1) name ap) [] [] cp) (some (.Name y p2)) pos.line X.env = pure false := by rfl) (hf : X.fn y = true ∨ X.env.scope.names.lookup y = some .local := by first | exact .inl rfl | exact .inr rfl | assumption) :
    DS X W (.Assign [.Name y p2] (.Call (.Attribute (.Name x p1) name ap) [] [] cp) pos) (mMutTo j i o mNil) 0 :=
  ⟨PS.imp (ps_set hN hj hy (pe_bm0 PySem.F.plainAttrs_list slot hty hm hv hbase hline) hs hf) fun D σ H q => by
    obtain ⟨ex, G, F, δ, τ, ts, E, n, nb, eo, h⟩ := q
    exact bm_lift0 (Q := fun u H1 => D.nx (σ.set j (some u)) H1) ho n nb h (set_end n.l1 eo)⟩
/-- x[i] = e -/
def mSto (i : Nat) (mi me : ME) : MS := fun ex E δ => isOwnAt δ i ∧ me ex δ fun y => mi ex δ fun z => match δ[i]?, y.val, z with
  | some (some (.own xs)), some d, .d (.int k) => match ixN xs.length k with
    | some j => E.nx (δ.set i (some (.own (xs.set j d))))
    | none => False
  | _, _, _ => False
theorem ds_sto {i : Nat} {idx : Expr} {p2 : Pos} (hv : PE X (.Name x p1) (tVar i)) (hi : DE X W idx mi u2) (he : DE X W e me u1)
    (hset : ∀ v, assign (.Subscript (.Name x p1) idx p2) X.env v = (do
      let ov ← holding [v] (eval (.Name x p1) X.env)
      let iv ← holding [v, ov] (eval idx X.env)
      standAt p2
      holding [v, ov, iv] (setItem ov iv v)
      release [v, ov, iv] []) := by intro _; rfl)
    (hs : swapsWithSole [.Subscript (.Name x p1) idx p2] e pos.line X.env = pure false := by rfl) (hw : swappedStores [.Subscript (.Name x p1) idx p2] e X.env = pure none := by rfl)
    (h1 : (assignEach [.Subscript (.Name x p1) idx p2] X.env).map (·.2) = [assign (.Subscript (.Name x p1) idx p2) X.env] := by rfl) :
    DS X W (.Assign [.Subscript (.Name x p1) idx p2] e pos) (mSto i mi me) (u1 + u2) :=
  ⟨PS.imp (ps_asg he.pe (pg_sub hv hi.pe set_list hset) hs hw h1) fun D σ H q => by
    obtain ⟨ex, G, F, δ, τ, ts, E, n, nb, eo, ho1, h⟩ := q
    obtain ⟨xs, eX⟩ := isOwn_some ho1
    refine ⟨ex, G, F, δ, τ, ts, [], [], _, n.fst, h, fun y hy v F1 H1 g1 => ?_⟩
    obtain ⟨l, ws0, el, _⟩ := own_ref n.l1 n.g0 eX
    refine ⟨.ref l, el, ?_⟩
    refine ⟨ex, G.up u1, F1, δ, τ, ts, _, _, _, n.after (rs := [some y]) (vs := [some v]) g1, hy, fun z hz iv F2 H2 g2 => ?_⟩
    rw [up_up] at g2
    have g : Good (G.up (u1 + u2)) F2 (δ ++ τ ++ [some y] ++ [some z]) (σ ++ ts ++ [some v] ++ [some iv]) H2 := by simpa only [List.append_assoc, List.nil_append] using g2
    rw [eX] at hz
    match hyv : y.val, z, hz, g with
    | some d, .d (.int kk), hz, g =>
      cases int_of g.top
      obtain ⟨F3, s3, g3⟩ := fix_one (A := δ ++ τ) (A2 := []) (x := y) (ρ := σ ++ ts ++ [some v]) (by simpa using g.pop) hyv
      have g3' : Good (G.up (u1 + u2)) F3 (δ ++ τ ++ [some (.d d)]) (σ ++ ts ++ [some v]) H2 := g3
      have hd : At G.K F3 v d := g3'.top
      have g4 := g3'.pop
      have hiL : i < δ.length := (List.getElem?_eq_some_iff.mp eX).1
      obtain ⟨w, ew, l', ws, rfl, q1, q2, _⟩ := g4.get (i := i) (dv := .own xs) (by rw [List.getElem?_append_left hiL]; exact eX)
      rw [List.getElem?_append_left (by have := n.l1; omega), el] at ew
      cases ew
      have hz' : (match ixN xs.length kk with | some j => E.nx (δ.set i (some (.own (xs.set j d)))) | none => False) := hz
      split at hz'
      · rename_i j ej
        refine ⟨l, ws, kk, j, rfl, rfl, q1, by rw [q2.length]; exact ej, ?_⟩
        have g5 := g4.write nb (n := i) (xs := xs) (ys := xs.set j d) (l := l) (ws := ws.set j v) (by rw [List.getElem?_append_left hiL]; exact eX) (by rw [List.getElem?_append_left (by have := n.l1; omega)]; exact el) (AtL.set hd j q2)
        rw [List.set_append_left _ _ hiL] at g5
        refine eo.nx _ hz' _ σ F3 _ (Nat.le_refl _) (by simpa using n.l1) ?_ g5
        rw [← List.set_append_left _ _ hiL]
        exact noBor_set nb rfl
      · exact hz'.elim⟩
/-- a, b = e1, e2; three of them -/
def mPar2 (i j : Nat) (t : MA) : MS := fun ex E δ => t ex δ fun xs => match xs with
  | [x, y] => x.isBor = false ∧ y.isBor = false ∧ i < δ.length ∧ j < δ.length ∧ E.nx ((δ.set i (some x)).set j (some y))
  | _ => False
theorem ds_par2 {i j : Nat} {y : Str} {px py pt pt2 : Pos} {kt k2 : _} (hc : X.calm = true) (hN : X.N.Nodup) (hi : X.N[i]? = some x) (hj : X.N[j]? = some y) (hij : i ≠ j)
    (hx : X.env.scope.names.lookup x = some .local) (hy : X.env.scope.names.lookup y = some .local) (ha : DA X W [a, b] mas u1)
    (hw : swappedStores [.Tuple [.Name x px, .Name y py] kt pt] (.Tuple [a, b] k2 pt2) X.env = pure (some [x, y]))
    (hs : swapsWithSole [.Tuple [.Name x px, .Name y py] kt pt] (.Tuple [a, b] k2 pt2) pos.line X.env = pure false := by rfl) :
    DS X W (.Assign [.Tuple [.Name x px, .Name y py] kt pt] (.Tuple [a, b] k2 pt2) pos) (mPar2 i j mas) u1 :=
  ⟨PS.imp (ps_par hc hN hi hj hij hx hy ha.pa hw hs) fun D σ H q => by
    obtain ⟨ex, G, F, δ, τ, ts, E, n, nb, eo, h⟩ := q
    refine ⟨ex, G, F, δ, τ, ts, [], [], _, n, h, fun xs hxs vs F1 H1 hl g1 => ?_⟩
    match xs, hxs, hl, g1 with
    | [x, y], hxs, hl, g1 =>
      obtain ⟨h1, h2, h3, h4, h5⟩ := hxs
      match vs, hl, g1 with
      | [v, u], hl, g1 =>
        refine ⟨v, u, rfl, ?_⟩
        have l1 := n.l1
        have g : Good (G.up u1) F1 (δ ++ (τ ++ [some x]) ++ [some y]) (σ ++ (ts ++ [some v]) ++ [some u]) H1 := by simpa using g1
        have g2 : Good (G.up u1) F1 (δ.set j (some y) ++ τ ++ [some x]) (σ.set j (some u) ++ ts ++ [some v]) H1 := by
          have := setTop2 l1 h4 g
          simpa only [List.append_assoc] using this
        have g3 := setTop2 (by simpa using l1) (j := i) (by simpa using h3) g2
        rw [List.set_comm _ _ (Ne.symm hij), List.set_comm _ _ (Ne.symm hij)] at g3
        refine eo.nx _ h5 _ _ F1 H1 (Nat.le_refl _) (by simpa using l1) ?_ g3
        exact nb_mk (noBor_set (noBor_set (nb_left nb) h1) h2) (nb_right nb)⟩
def mPar3 (i j l : Nat) (t : MA) : MS := fun ex E δ => t ex δ fun xs => match xs with
  | [x, y, z] => x.isBor = false ∧ y.isBor = false ∧ z.isBor = false ∧ i < δ.length ∧ j < δ.length ∧ l < δ.length ∧ E.nx (((δ.set i (some x)).set j (some y)).set l (some z))
  | _ => False
theorem ds_par3 {i j l : Nat} {y z : Str} {px py pz pt pt2 : Pos} {kt k2 : _} (hc : X.calm = true) (hN : X.N.Nodup) (hi : X.N[i]? = some x) (hj : X.N[j]? = some y) (hl : X.N[l]? = some z) (hij : i ≠ j) (hil : i ≠ l) (hjl : j ≠ l)
    (hx : X.env.scope.names.lookup x = some .local) (hy : X.env.scope.names.lookup y = some .local) (hz : X.env.scope.names.lookup z = some .local) (ha : DA X W [a, b, c] mas u1)
    (hw : swappedStores [.Tuple [.Name x px, .Name y py, .Name z pz] kt pt] (.Tuple [a, b, c] k2 pt2) X.env = pure (some [x, y, z]))
    (hs : swapsWithSole [.Tuple [.Name x px, .Name y py, .Name z pz] kt pt] (.Tuple [a, b, c] k2 pt2) pos.line X.env = pure false := by rfl) :
    DS X W (.Assign [.Tuple [.Name x px, .Name y py, .Name z pz] kt pt] (.Tuple [a, b, c] k2 pt2) pos) (mPar3 i j l mas) u1 :=
  ⟨PS.imp (ps_par3 hc hN hi hj hl hij hil hjl hx hy hz ha.pa hw hs) fun D σ H q => by
    obtain ⟨ex, G, F, δ, τ, ts, E, n, nb, eo, h⟩ := q
    refine ⟨ex, G, F, δ, τ, ts, [], [], _, n, h, fun xs hxs vs F1 H1 hln g1 => ?_⟩
    match xs, hxs, hln, g1 with
    | [x, y, z], hxs, hln, g1 =>
      obtain ⟨h1, h2, h3, h4, h5, h6, h7⟩ := hxs
      match vs, hln, g1 with
      | [v, u, w], hln, g1 =>
        refine ⟨v, u, w, rfl, ?_⟩
        have l1 := n.l1
        have g : Good (G.up u1) F1 (δ ++ (τ ++ [some x] ++ [some y]) ++ [some z]) (σ ++ (ts ++ [some v] ++ [some u]) ++ [some w]) H1 := by simpa using g1
        have g2 : Good (G.up u1) F1 (δ.set l (some z) ++ (τ ++ [some x]) ++ [some y]) (σ.set l (some w) ++ (ts ++ [some v]) ++ [some u]) H1 := by
          have := setTop2 l1 h6 g
          simpa only [List.append_assoc] using this
        have g3 : Good (G.up u1) F1 ((δ.set l (some z)).set j (some y) ++ τ ++ [some x]) ((σ.set l (some w)).set j (some u) ++ ts ++ [some v]) H1 := by
          have := setTop2 (by simpa using l1) (j := j) (by simpa using h5) g2
          simpa only [List.append_assoc] using this
        have g4 := setTop2 (by simpa using l1) (j := i) (by simpa using h4) g3
        have perm : ∀ {α : Type} (s : List α) (p q r : α), ((s.set l r).set j q).set i p = ((s.set i p).set j q).set l r := fun s p q r => by
          rw [List.set_comm _ _ (Ne.symm hij), List.set_comm r p (Ne.symm hil), List.set_comm _ _ (Ne.symm hjl)]
        rw [perm, perm] at g4
        refine eo.nx _ h7 _ _ F1 H1 (Nat.le_refl _) (by simpa using l1) ?_ g4
        exact nb_mk (noBor_set (noBor_set (noBor_set (nb_left nb) h1) h2) h3) (nb_right nb)⟩
/-- x += e, x -= e, numbers -/
def mAug (i : Nat) (f : Int → Int → Int) (me : ME) : MS := fun ex E δ => match δ[i]? with
  | some (some (.d (.int v))) => me ex δ fun y => match y with
    | .d (.int u) => E.nx (δ.set i (some (.d (.int (f v u)))))
    | _ => False
  | _ => False
theorem ds_aug {i : Nat} {op : Operator} {f : Int → Int → Int} (hN : X.N.Nodup) (hi : X.N[i]? = some x) (hx : Loc X.env.scope x) (he : DE X W e me u1) (ho : PIp X op (ipI f)) (hf : X.fn x = true ∨ X.env.scope.names.lookup x = some .local := by first | exact .inl rfl | exact .inr rfl | assumption) :
    DS X W (.AugAssign (.Name x p1) op e pos) (mAug i f me) u1 :=
  ⟨PS.imp (ps_aug hN hi hx he.pe ho hf) fun D σ H q => by
    obtain ⟨ex, G, F, δ, τ, ts, E, n, nb, eo, h⟩ := q
    unfold mAug at h
    split at h
    · rename_i v e
      have hiL : i < δ.length := (List.getElem?_eq_some_iff.mp e).1
      obtain ⟨w, ew, hw⟩ := n.g0.get (i := i) (dv := .d (.int v)) (by rw [List.getElem?_append_left hiL]; exact e)
      rw [List.getElem?_append_left (by have := n.l1; omega)] at ew
      cases int_of hw
      refine ⟨.int v, ew, ex, G, F, δ, τ, ts, [], [], _, n, h, fun y hy u F1 H1 g1 => ?_⟩
      match y, hy, g1 with
      | .d (.int j), hy, g1 =>
        cases int_of g1.top
        have g2 : Good (G.up u1) F1 (δ ++ τ) (σ ++ ts) H1 := by
          have := g1.pop
          simpa using this
        refine ⟨v, j, rfl, rfl, eo.nx _ hy _ _ F1 H1 (Nat.le_refl _) (by simpa using n.l1) ?_ (setTop2 n.l1 hiL (g2.pushD (.int _)))⟩
        rw [← List.set_append_left _ _ hiL]
        exact noBor_set nb rfl
    · exact h.elim⟩
end
end DL

namespace DL
open PySem PySem.Spec L2

section
variable {u u1 u2 u3 : Nat} {X : Cx} {W : WC} {a b c e : Expr} {es : List Expr} {pos p : Pos} {ma mb mc me : ME} {mas : MA} {k : Nat}
theorem Ctx.blk (cx : Ctx X W k) {s : Shared} {H : Hp} {scope : Scope} {ce : PySem.Env} {fp : List Addr} : Ctx (X.blk s H scope ce fp) (W0 W) k := ⟨cx.gd, cx.hr, takes0⟩
theorem CtxU.blk (cx : CtxU X) {s : Shared} {H : Hp} {scope : Scope} {ce : PySem.Env} {fp : List Addr} : CtxU (X.blk s H scope ce fp) := ⟨cx.gd, cx.un⟩
theorem Ctx.passes {Y : Cx} {K : Value → Shared → Prop} {E₁ : Value → Shared → Prop} (hx : Y.xe = fun e s' => wpAny (model Y.prog Y.w) Y.A (leaving Y.env e) (fun _ s'' => K e s'') E₁ s') : PassesOwn (model Y.prog Y.w) Y.A Y.env Y.xe := passes_of hx
/-! tests that are comparisons -/
theorem dt_eq (cx : CtxU X) (ha : DE X W a ma u1) (hb : DE X W b mb u2) : DT X W (.Compare a [.Eq] [b] pos) (mB (mBin (oEq false) ma mb)) (u1 + u2) := dt_cmp (op_eqB cx.u64) o2_eq ha hb (nomark _)
theorem dt_ne (cx : CtxU X) (ha : DE X W a ma u1) (hb : DE X W b mb u2) : DT X W (.Compare a [.NotEq] [b] pos) (mB (mBin (oEq true) ma mb)) (u1 + u2) := dt_cmp (op_neB cx.u64) o2_eq ha hb (nomark _)
theorem dt_lt (ha : DE X W a ma u1) (hb : DE X W b mb u2) : DT X W (.Compare a [.Lt] [b] pos) (mB (mBin oLt ma mb)) (u1 + u2) := dt_cmp op_lt o2_C ha hb (nomark _)
theorem dt_le (ha : DE X W a ma u1) (hb : DE X W b mb u2) : DT X W (.Compare a [.LtE] [b] pos) (mB (mBin oLe ma mb)) (u1 + u2) := dt_cmp op_le o2_C ha hb (nomark _)
theorem dt_gt (ha : DE X W a ma u1) (hb : DE X W b mb u2) : DT X W (.Compare a [.Gt] [b] pos) (mB (mBin oGt ma mb)) (u1 + u2) := dt_cmp op_gt o2_C ha hb (nomark _)
theorem dt_ge (ha : DE X W a ma u1) (hb : DE X W b mb u2) : DT X W (.Compare a [.GtE] [b] pos) (mB (mBin oGe ma mb)) (u1 + u2) := dt_cmp op_ge o2_C ha hb (nomark _)
theorem dt_in (cx : CtxU X) (ha : DE X W a ma u1) (hb : DE X W b mb u2) (hm : behindInMarks .In b = false := by rfl) : DT X W (.Compare a [.In] [b] pos) (mB (mBin (oIn false) ma mb)) (u1 + u2) := dt_cmp (op_inA cx.u65) o2_in ha hb hm
theorem dt_notin (cx : CtxU X) (ha : DE X W a ma u1) (hb : DE X W b mb u2) (hm : behindInMarks .NotIn b = false := by rfl) : DT X W (.Compare a [.NotIn] [b] pos) (mB (mBin (oIn true) ma mb)) (u1 + u2) := dt_cmp (op_notInA cx.u65) o2_in ha hb hm
theorem dt_is (ha : DE X W a ma u1) (hb : DE X W b mb u2) : DT X W (.Compare a [.Is] [b] pos) (mB (mBin (oIsN false) ma mb)) (u1 + u2) := dt_cmp op_isA o2_isN ha hb (nomark _)
theorem dt_isnot (ha : DE X W a ma u1) (hb : DE X W b mb u2) : DT X W (.Compare a [.IsNot] [b] pos) (mB (mBin (oIsN true) ma mb)) (u1 + u2) := dt_cmp op_isNotA o2_isN ha hb (nomark _)
/-! two comparisons of numbers in a row -/
theorem de_ch {op op' : CmpOp} {f g : Int → Int → Bool} (h : OpR X (compareOp op) (rI0 fun i j => .bl (f i j))) (h' : OpR X (compareOp op') (rI0 fun i j => .bl (g i j))) (ha : DE X W a ma u1) (hb : DE X W b mb u2) (hc : DE X W c mc u3)
    (hm : lastMarks [op, op'] [b, c] = false := by with_unfolding_all rfl) : DE X W (.Compare a [op, op'] [b, c] pos) (mChain (oC f) (oC g) ma mb mc) (u1 + (u2 + u3)) :=
  ⟨PE.imp (pe_chain h h' ha.pe hb.pe hc.pe hm) fun σ H Q q => chain_lift o2_C o2_C oC_bool σ H Q q⟩
theorem dt_ch {op op' : CmpOp} {f g : Int → Int → Bool} (h : OpR X (compareOp op) (rI0 fun i j => .bl (f i j))) (h' : OpR X (compareOp op') (rI0 fun i j => .bl (g i j))) (ha : DE X W a ma u1) (hb : DE X W b mb u2) (hc : DE X W c mc u3)
    (hm : lastMarks [op, op'] [b, c] = false := by with_unfolding_all rfl) : DT X W (.Compare a [op, op'] [b, c] pos) (mB (mChain (oC f) (oC g) ma mb mc)) (u1 + (u2 + u3)) :=
  ⟨PT.imp (pt_chain h h' ha.pe hb.pe hc.pe hm) fun σ H Q q => by
    have q' := liftT_of σ H Q q
    exact chain_lift o2_C o2_C oC_bool σ H _ q'⟩
/-! ### a def by its own promise, in the middle of a hand-made reading -/
def tCallG (sp : Sp) (W : WX) (t : TA) : TE := fun σ H Q => t σ H fun vs H1 => sp vs H1 Q (WE W σ)
theorem pe_callG {sp : Sp} {t : TA} {f : Addr} {fd : FuncData} {ps : List Str} {j : Nat} {x : Str} {w : WX} (gd : X.A.guards = some []) (hr : Room j X.A) (tk : Takes X w) (F : FnG X.prog X.w X.K X.mg X.base k f fd ps sp) (hk : k ≤ j) (hm : X.mg x = some (.ref f)) (hkp : PySem.W.keepIn X.K (.ref f) = true) (hb : Binds X.K fd ps []) (hg : Gl X x) (ha : PA X (e :: es) t) (hdb : (x == ("__debug__" : Str)) = false := by decide)
    (he : starEach (e :: es) X.env = (false, eval e X.env) :: starEach es X.env := by rfl) (hpl : (backTo pos (starEach es X.env)).any (·.1) = false := by rfl) : PE X (.Call (.Name x p) (e :: es) [] pos) (tCallG sp w t) := by
  refine ⟨fun pins s σ H Q I h => ?_⟩
  refine wpAny_Call_Name_kw (ld_glob I hg hm ?_ hdb)
  exact PySem.W.callWith_K (h₀ := X.base) I.ok.mod.kin hkp (thn (ha.run pos pins s σ H _ I h) fun us s1 ⟨vs, H1, I1, r, q⟩ => ⟨I1.kIn, call_run (W := ⟨w, fun _ _ _ _ => True⟩) F gd (hr.mono hk) hb tk I1 r q⟩) he hpl
end
end DL

namespace DL
open PySem PySem.Spec L2

section
variable {u u1 u2 u3 : Nat} {X : Cx} {W : WC} {a b c e : Expr} {pos p : Pos} {mas : MA}
/-- range(i, j, -1) as the ints -/
def downD (hi : Int) (n : Nat) : List PyData := (List.range n).map fun i => .int (hi - (i : Nat))
theorem downD_len {lo : Int} {n : Nat} : (downD lo n).length = n := by unfold downD; simp
theorem downD_get {lo : Int} {n i : Nat} : (downD lo n)[i]? = if i < n then some (.int (lo - (i : Nat))) else none := by
  unfold downD
  rw [List.getElem?_map]
  by_cases h : i < n
  · rw [List.getElem?_range h, if_pos h]; rfl
  · rw [List.getElem?_eq_none (by simpa using h), if_neg h]; rfl
theorem itc_ok (G : Gm) (lo : Int) (n : Nat) : ItOk G ⟨[], downD lo n⟩ [] (Itc lo (-1) n) := fun b i F A B A' B' H hA hB g => by
  refine ⟨fun h => by rw [downD_len] at h; exact h, fun d hd => ?_⟩
  rw [downD_get] at hd
  split at hd
  · rename_i hi
    cases hd
    refine ⟨hi, fun y H3 hy => ?_⟩
    obtain ⟨rfl, rfl⟩ := hy
    have e : lo + (i : Nat) * (-1 : Int) = lo - (i : Nat) := by omega
    rw [e]
    exact ⟨F, g.pushD (.int _)⟩
  · cases hd
def mR3 (t : MA) : MI := fun ex δ R => t ex δ fun xs => match xs with
  | [.d (.int i), .d (.int j), .d (.int c)] => c = -1 ∧ (-(2 ^ 62) ≤ i ∧ i < 2 ^ 62 ∧ -(2 ^ 62) ≤ j ∧ j < 2 ^ 62) ∧ R ⟨[], downD i (i - j).toNat⟩
  | _ => False
theorem di_range3 {tg : Expr} {p : Pos} (hg : Gl X "range") (hm : X.mg "range" = none) (ha : DA X W [a, b, c] mas u) (hs : starEach [a, b, c] X.env = (false, eval a X.env) :: starEach [b, c] X.env := by rfl)
    (hpl : (backTo pos (starEach [b, c] X.env)).any (·.1) = false := by rfl) :
    DI X W tg (.Call (.Name "range" p) [a, b, c] [] pos) (mR3 mas) u :=
  ⟨PI.imp (pi_range3 hg hm ha.pa hs hpl) fun σ H Q q => by
    obtain ⟨ex, G, F, δ, τ, ts, τ1, ts1, R, n, m, k⟩ := q
    refine ⟨ex, G, F, δ, τ, ts, τ1, ts1, _, n, m, fun xs hxs vs F1 H1 hl g1 => ?_⟩
    match xs, hxs, hl, g1 with
    | [.d (.int i), .d (.int j), .d (.int c)], hxs, hl, g1 =>
      obtain ⟨rfl, ⟨h1, h2, h3, h4⟩, hR⟩ := hxs
      obtain ⟨v, u, w, rfl, hv, hu, hw, g⟩ := three_of hl g1
      cases int_of hv
      cases int_of hu
      cases int_of hw
      exact ⟨i, j, -1, _, rfl, RgC.neg h1 h2 h3 h4, k _ hR [] F1 H1 _ rfl (by simpa using g) (itc_ok _ i _)⟩⟩
end

/-! ### where readings by hand and as data meet -/
theorem Good.alloc {G : Gm} {F H : Hp} {δ : Env} {σ : L2.St} (g : Good G F δ σ H) {p : Addr} {o : HO} (hp : H p = none) : Good G F δ σ (upd H p o) := by
  have cp : ¬ G.C p := fun c => g.g.jn _ H g.jh p c hp
  have fp : F p = none := g.fresh hp
  refine ⟨g.g, g.len, g.f0, fun b u e => ?_, g.fr, fun b u c e => ?_, g.cf, g.g.js _ _ _ g.jh (fun b c => upd_ne (fun z => cp (z ▸ c))) (fun b x e => by rw [upd_ne (ne_of_none e hp)]; exact e), fun i z e => ?_, g.di⟩
  · rw [upd_ne (ne_of_none e fp)]
    exact g.fh _ _ e
  · have hb := g.bh _ _ c e
    rw [upd_ne (ne_of_none hb hp)]
    exact hb
  · obtain ⟨w, e', h⟩ := g.sl i z e
    exact ⟨w, e', h.keep (Same.refl F) (fun l vs _ _ hl => by rw [upd_ne (ne_of_none hl hp)]; exact hl) fun _ _ _ hl => hl⟩
/-- all that stands is fixed from here on -/
theorem Good.base {G : Gm} {F H : Hp} {δ : Env} {σ : L2.St} (g : Good G F δ σ H) (hn : ∀ (i : Nat) (x : DV), δ[i]? = some (some x) → x.arg = true) : Good (G.into F H) F δ σ H := by
  refine ⟨⟨g.g.js, g.g.jm, g.g.jn, fun p c => g.g.jn _ H g.jh p c⟩, g.len, Same.refl F, g.fh, fun p q1 q2 => absurd q2 q1, fun p o _ q => q, g.cf, g.jh, fun i x e => ?_, fun i j a b l hx _ e1 _ _ _ => ?_⟩
  · obtain ⟨v, e1, e2⟩ := g.sl i x e
    have hm := hn i x e
    refine ⟨v, e1, ?_⟩
    cases x with
    | d _ => exact e2
    | cask => exact e2
    | raw _ => exact e2
    | scr _ => exact e2
    | _ => cases hm
  · have hm := hn i a e1
    cases a with
    | own _ => cases hm
    | odk _ => cases hm
    | olk _ _ => cases hm
    | _ => cases hx
/-- a draw: only the objects of draws have changed -/
theorem Good.draw {G : Gm} {F H H' : Hp} {δ : Env} {σ : L2.St} {k : Nat} (g : Good G F δ σ H) (hk : ∀ p, ¬ G.C p → ∀ o, H p = some o → H' p = some o) (hj : G.J (G.n + k) H') : Good (G.up k) F [] [] H' := by
  refine ⟨g.g.up k, rfl, g.f0, fun b u e => ?_, g.fr, fun b u c e => hk b c _ (g.bh _ _ c e), g.cf, hj, fun i z e => by simp at e, fun i j x y l _ _ e => by simp at e⟩
  have nc : ¬ G.C b := fun c => by rw [g.cf b c] at e; cases e
  exact hk b nc _ (g.fh _ _ e)
/-- a world where nothing is tracked but the script -/
theorem good_script {K : PySem.W.Frag} {H : Hp} {a : Addr} {ns : List Int} (h : SqL K H a (ns.map V.int)) (k lim : Nat) :
    Good ⟨K, fun p => if p = a then H p else none, H, fun _ => False, .non, fun _ _ => True, 0, lim⟩ (fun p => if p = a then H p else none) (some (.scr ns) :: List.replicate k none) (some (.ref a) :: List.replicate k none) H := by
  refine ⟨⟨fun _ _ _ _ _ _ => trivial, fun _ _ _ _ _ => trivial, fun _ _ _ _ z => z.elim, fun _ z => z.elim⟩, by simp, Same.refl _, fun b u e => ?_, fun p q1 q2 => absurd q2 q1, fun _ _ _ q => q, fun _ z => z.elim, trivial, fun i x e => ?_, fun i j x y l hx _ e1 _ _ _ => ?_⟩
  · have e' : (if b = a then H b else none) = some u := e
    split at e'
    · exact e'
    · cases e'
  · cases i with
    | zero =>
      cases e
      refine ⟨.ref a, rfl, a, rfl, ?_⟩
      have h' : SqL K (fun p => if p = a then H p else none) a (ns.map V.int) := by
        have e0 : (fun p => if p = a then H p else none) a = H a := if_pos rfl
        unfold SqL Rd at h ⊢
        rw [e0]
        exact h
      exact h'
    | succ i =>
      rw [List.getElem?_cons_succ, List.getElem?_replicate] at e
      split at e <;> cases e
  · cases i with
    | zero => cases e1; cases hx
    | succ i =>
      rw [List.getElem?_cons_succ, List.getElem?_replicate] at e1
      split at e1 <;> cases e1
/-- a world with a box of draws in slot i, the rest unknown -/
theorem good_cask {G : Gm} {H : Hp} {i : Nat} {σ : L2.St} (hG : G.Ok) (h0 : G.F0 = fun _ => none) (hB : G.B = H) (hj : G.J G.n H) (hi : σ[i]? = some (some G.cv)) : Good G (fun _ => none) ((List.replicate σ.length none).set i (some .cask)) σ H := by
  have s0 : Same G.F0 (fun _ => none) := by rw [h0]; exact Same.refl _
  refine ⟨hG, by simp, s0, fun b u e => (nomatch e), fun p q => absurd rfl q, fun p o _ q => by rw [← hB]; exact q, fun _ _ => rfl, hj, fun j x e => ?_, fun a b x y l hx _ e1 _ _ _ => ?_⟩
  · rcases get_set e with ⟨q1, q2, _⟩ | ⟨_, q⟩
    · cases q2
      subst q1
      exact ⟨G.cv, hi, rfl⟩
    · rw [List.getElem?_replicate] at q
      split at q <;> cases q
  · rcases get_set e1 with ⟨_, q2, _⟩ | ⟨_, q⟩
    · cases q2; cases hx
    · rw [List.getElem?_replicate] at q
      split at q <;> cases q
/-! ### a, b = e1, e2 where the names are not plain locals: a tuple is made, taken apart, forgotten -/
section
variable {u1 : Nat} {X : Cx} {W : WC} {a b c : Expr} {pos : Pos} {mas : MA} {x y z : Str}
theorem ds_tup2 {i j : Nat} {px py pt pt2 : Pos} {kt k2 : _} (hc : X.calm = true) (hN : X.N.Nodup) (hi : X.N[i]? = some x) (hj : X.N[j]? = some y) (hij : i ≠ j) (hx : Loc X.env.scope x) (hy : Loc X.env.scope y) (ha : DA X W [a, b] mas u1)
    (hfx : X.fn x = true ∨ X.env.scope.names.lookup x = some .local := by first | exact .inl rfl | exact .inr rfl) (hfy : X.fn y = true ∨ X.env.scope.names.lookup y = some .local := by first | exact .inl rfl | exact .inr rfl)
    (hn : (assignEach [.Name x px, .Name y py] X.env).length = 2 := by rfl) (hst : (assignEach [.Name x px, .Name y py] X.env).findIdx? (·.1) = none := by rfl)
    (h1 : (assignEach [.Name x px, .Name y py] X.env).map (·.2) = assign (.Name x px) X.env :: (assignEach [.Name y py] X.env).map (·.2) := by rfl) (h2 : (assignEach [.Name y py] X.env).map (·.2) = assign (.Name y py) X.env :: (assignEach [] X.env).map (·.2) := by rfl)
    (hs : swapsWithSole [.Tuple [.Name x px, .Name y py] kt pt] (.Tuple [a, b] k2 pt2) pos.line X.env = pure false := by rfl) (hw : swappedStores [.Tuple [.Name x px, .Name y py] kt pt] (.Tuple [a, b] k2 pt2) X.env = pure none := by rfl)
    (h0 : (assignEach [.Tuple [.Name x px, .Name y py] kt pt] X.env).map (·.2) = [assign (.Tuple [.Name x px, .Name y py] kt pt) X.env] := by rfl) :
    DS X W (.Assign [.Tuple [.Name x px, .Name y py] kt pt] (.Tuple [a, b] k2 pt2) pos) (mPar2 i j mas) u1 :=
  ⟨PS.imp (ps_asg (pe_tup ha.pa) (pg_tup hc (pgs_cons (pg_name hN hi hx hfx) (pgs_cons (pg_name hN hj hy hfy) pgs_nil h2) h1) hn hst) hs hw h0) fun D σ H q => by
    obtain ⟨ex, G, F, δ, τ, ts, E, n, nb, eo, h⟩ := q
    refine ⟨ex, G, F, δ, τ, ts, [], [], _, n, h, fun xs hxs vs F1 H1 hl g1 => ?_⟩
    match xs, hxs, hl, g1 with
    | [x, y], hxs, hl, g1 =>
      obtain ⟨q1, q2, q3, q4, q5⟩ := hxs
      match vs, hl, g1 with
      | [v, u], hl, g1 =>
        refine ⟨by show 2 ≤ sizeLine; decide, fun p hp => ⟨p, [v, u], rfl, SqT.of upd_same, rfl, v, [u], rfl, u, [], rfl, rfl, ?_⟩⟩
        have l1 := n.l1
        have g : Good (G.up u1) F1 (δ ++ (τ ++ [some x]) ++ [some y]) (σ ++ (ts ++ [some v]) ++ [some u]) (upd H1 p (.tup [v, u])) := by
          have := g1.alloc (o := .tup [v, u]) hp
          simpa using this
        have g2 : Good (G.up u1) F1 (δ.set j (some y) ++ τ ++ [some x]) (σ.set j (some u) ++ ts ++ [some v]) (upd H1 p (.tup [v, u])) := by
          have := setTop2 l1 q4 g
          simpa only [List.append_assoc] using this
        have g3 := setTop2 (by simpa using l1) (j := i) (by simpa using q3) g2
        rw [List.set_comm _ _ (Ne.symm hij), List.set_comm _ _ (Ne.symm hij)] at g3
        refine eo.nx _ q5 _ _ F1 _ (Nat.le_refl _) (by simpa using l1) ?_ g3
        exact nb_mk (noBor_set (noBor_set (nb_left nb) q1) q2) (nb_right nb)⟩
theorem ds_tup3 {i j l : Nat} {px py pz pt pt2 : Pos} {kt k2 : _} (hc : X.calm = true) (hN : X.N.Nodup) (hi : X.N[i]? = some x) (hj : X.N[j]? = some y) (hl : X.N[l]? = some z) (hij : i ≠ j) (hil : i ≠ l) (hjl : j ≠ l) (hx : Loc X.env.scope x) (hy : Loc X.env.scope y) (hz : Loc X.env.scope z) (ha : DA X W [a, b, c] mas u1)
    (hfx : X.fn x = true ∨ X.env.scope.names.lookup x = some .local := by first | exact .inl rfl | exact .inr rfl) (hfy : X.fn y = true ∨ X.env.scope.names.lookup y = some .local := by first | exact .inl rfl | exact .inr rfl) (hfz : X.fn z = true ∨ X.env.scope.names.lookup z = some .local := by first | exact .inl rfl | exact .inr rfl)
    (hn : (assignEach [.Name x px, .Name y py, .Name z pz] X.env).length = 3 := by rfl) (hst : (assignEach [.Name x px, .Name y py, .Name z pz] X.env).findIdx? (·.1) = none := by rfl)
    (h1 : (assignEach [.Name x px, .Name y py, .Name z pz] X.env).map (·.2) = assign (.Name x px) X.env :: (assignEach [.Name y py, .Name z pz] X.env).map (·.2) := by rfl) (h2 : (assignEach [.Name y py, .Name z pz] X.env).map (·.2) = assign (.Name y py) X.env :: (assignEach [.Name z pz] X.env).map (·.2) := by rfl)
    (h3 : (assignEach [.Name z pz] X.env).map (·.2) = assign (.Name z pz) X.env :: (assignEach [] X.env).map (·.2) := by rfl)
    (hs : swapsWithSole [.Tuple [.Name x px, .Name y py, .Name z pz] kt pt] (.Tuple [a, b, c] k2 pt2) pos.line X.env = pure false := by rfl) (hw : swappedStores [.Tuple [.Name x px, .Name y py, .Name z pz] kt pt] (.Tuple [a, b, c] k2 pt2) X.env = pure none := by rfl)
    (h0 : (assignEach [.Tuple [.Name x px, .Name y py, .Name z pz] kt pt] X.env).map (·.2) = [assign (.Tuple [.Name x px, .Name y py, .Name z pz] kt pt) X.env] := by rfl) :
    DS X W (.Assign [.Tuple [.Name x px, .Name y py, .Name z pz] kt pt] (.Tuple [a, b, c] k2 pt2) pos) (mPar3 i j l mas) u1 :=
  ⟨PS.imp (ps_asg (pe_tup ha.pa) (pg_tup hc (pgs_cons (pg_name hN hi hx hfx) (pgs_cons (pg_name hN hj hy hfy) (pgs_cons (pg_name hN hl hz hfz) pgs_nil h3) h2) h1) hn hst) hs hw h0) fun D σ H q => by
    obtain ⟨ex, G, F, δ, τ, ts, E, n, nb, eo, h⟩ := q
    refine ⟨ex, G, F, δ, τ, ts, [], [], _, n, h, fun xs hxs vs F1 H1 hln g1 => ?_⟩
    match xs, hxs, hln, g1 with
    | [x, y, z], hxs, hln, g1 =>
      obtain ⟨q1, q2, q3, q4, q5, q6, q7⟩ := hxs
      match vs, hln, g1 with
      | [v, u, w], hln, g1 =>
        refine ⟨by show 3 ≤ sizeLine; decide, fun p hp => ⟨p, [v, u, w], rfl, SqT.of upd_same, rfl, v, [u, w], rfl, u, [w], rfl, w, [], rfl, rfl, ?_⟩⟩
        have l1 := n.l1
        have g : Good (G.up u1) F1 (δ ++ (τ ++ [some x] ++ [some y]) ++ [some z]) (σ ++ (ts ++ [some v] ++ [some u]) ++ [some w]) (upd H1 p (.tup [v, u, w])) := by
          have := g1.alloc (o := .tup [v, u, w]) hp
          simpa using this
        have g2 : Good (G.up u1) F1 (δ.set l (some z) ++ (τ ++ [some x]) ++ [some y]) (σ.set l (some w) ++ (ts ++ [some v]) ++ [some u]) (upd H1 p (.tup [v, u, w])) := by
          have := setTop2 l1 q6 g
          simpa only [List.append_assoc] using this
        have g3 : Good (G.up u1) F1 ((δ.set l (some z)).set j (some y) ++ τ ++ [some x]) ((σ.set l (some w)).set j (some u) ++ ts ++ [some v]) (upd H1 p (.tup [v, u, w])) := by
          have := setTop2 (by simpa using l1) (j := j) (by simpa using q5) g2
          simpa only [List.append_assoc] using this
        have g4 := setTop2 (by simpa using l1) (j := i) (by simpa using q4) g3
        have perm : ∀ {α : Type} (s : List α) (p q r : α), ((s.set l r).set j q).set i p = ((s.set i p).set j q).set l r := fun s p q r => by
          rw [List.set_comm _ _ (Ne.symm hij), List.set_comm r p (Ne.symm hil), List.set_comm _ _ (Ne.symm hjl)]
        rw [perm, perm] at g4
        refine eo.nx _ q7 _ _ F1 _ (Nat.le_refl _) (by simpa using l1) ?_ g4
        exact nb_mk (noBor_set (noBor_set (noBor_set (nb_left nb) q1) q2) q3) (nb_right nb)⟩
end
end DL

namespace DL
open PySem PySem.Spec L2
theorem ge0 {α : Type} {a : α} {l : List α} : (a :: l)[0]? = some a := rfl
theorem ges {α : Type} {a : α} {l : List α} {n : Nat} : (a :: l)[n + 1]? = l[n]? := List.getElem?_cons_succ
theorem all_nil' {α : Type} {p : α → Prop} : (∀ x ∈ ([] : List α), p x) = True := by simp
theorem tf_t {A B : Prop} : ((true = true → A) ∧ (true = false → B)) = A := by simp
theorem tf_f {A B : Prop} : ((false = true → A) ∧ (false = false → B)) = B := by simp
theorem tf1 {A : Prop} : (true = true → A) = A := by simp
theorem tf2 {A : Prop} : (false = true → A) = True := by simp
theorem tf3 {A : Prop} : (true = false → A) = True := by simp
theorem tf4 {A : Prop} : (false = false → A) = A := by simp
theorem tf_if {c : Bool} {A B : Prop} (h1 : c = true → A) (h2 : c = false → B) : (c = true → A) ∧ (c = false → B) := ⟨h1, h2⟩
section
variable {x y : PyData} {xs ys : List PyData} {i j : Int} {s t : Str} {b : Bool} {ns : List Int} {R : DV → Prop}
theorem val_d : (DV.val (.d x)) = (some x) := rfl
theorem val_o : (DV.val (.own xs)) = (some (.list xs)) := rfl
theorem seen_d : (DV.seen (.d x)) = (.d x) := rfl
theorem seen_o : (DV.seen (.own xs)) = (.bor xs) := rfl
theorem seen_b : (DV.seen (.bor xs)) = (.bor xs) := rfl
theorem seen_c : (DV.seen .cask) = (.cask) := rfl
theorem seen_s : (DV.seen (.scr ns)) = (.scr ns) := rfl
theorem fix_d : (DV.fix (.d x)) = (.d x) := rfl
theorem fix_o : (DV.fix (.own xs)) = (.d (.list xs)) := rfl
theorem fix_b : (DV.fix (.bor xs)) = (.d (.list xs)) := rfl
theorem fix_c : (DV.fix .cask) = (.cask) := rfl
theorem isBor_d : (DV.isBor (.d x)) = (false) := rfl
theorem isBor_o : (DV.isBor (.own xs)) = (false) := rfl
theorem isBor_b : (DV.isBor (.bor xs)) = (true) := rfl
theorem isBor_c : (DV.isBor .cask) = (false) := rfl
theorem isBor_s : (DV.isBor (.scr ns)) = (false) := rfl
variable {Rb : Bool → Prop}
theorem tru_b : (DV.tru (.d (.bool b)) Rb) = (Rb b) := rfl
theorem lst_dl : (DV.lst (.d (.list xs))) = (some xs) := rfl
theorem rd_dl : (DV.rd (.d (.list xs))) = (some xs) := rfl
theorem lst_o : (DV.lst (.own xs)) = (some xs) := rfl
theorem rd_o : (DV.rd (.own xs)) = (some xs) := rfl
theorem lst_b : (DV.lst (.bor xs)) = (some xs) := rfl
theorem rd_b : (DV.rd (.bor xs)) = (some xs) := rfl
theorem seq_dl : (DV.seq (.d (.list xs))) = (some xs) := rfl
theorem seq_dt : (DV.seq (.d (.tuple xs))) = (some xs) := rfl
theorem seq_o : (DV.seq (.own xs)) = (some xs) := rfl
theorem seq_b : (DV.seq (.bor xs)) = (some xs) := rfl
theorem rd_s : (DV.rd (.scr ns)) = (some (ns.map .int)) := rfl
theorem pd_d : (DV.pd (.d x)) = (some x) := rfl
theorem pd_o : (DV.pd (.own xs)) = (some (.list xs)) := rfl
theorem pd_b : (DV.pd (.bor xs)) = (some (.list xs)) := rfl
variable {C : Int → Int → Prop} {f : Int → Int → Int} {g : Int → Int → Bool}
theorem oI_i : (oI C f (.d (.int i)) (.d (.int j)) R) = (C i j ∧ R (.d (.int (f i j)))) := rfl
theorem oC_i : (oC g (.d (.int i)) (.d (.int j)) R) = (R (.d (.bool (g i j)))) := rfl
theorem oAdd_i : (oAdd (.d (.int i)) (.d (.int j)) R) = (R (.d (.int (i + j)))) := rfl
theorem oAdd_s : (oAdd (.d (.str s)) (.d (.str t)) R) = (s.length + t.length ≤ sizeLine ∧ R (.d (.str (s ++ t)))) := rfl
theorem oAdd_t : (oAdd (.d (.tuple xs)) (.d (.tuple ys)) R) = (xs.length + ys.length ≤ sizeLine ∧ R (.d (.tuple (xs ++ ys)))) := rfl
theorem oAdd_ll : (oAdd (.d (.list xs)) (.d (.list ys)) R) = (xs.length + ys.length ≤ sizeLine ∧ R (.own (xs ++ ys))) := rfl
theorem oAdd_lo : (oAdd (.d (.list xs)) (.own ys) R) = (xs.length + ys.length ≤ sizeLine ∧ R (.own (xs ++ ys))) := rfl
theorem oAdd_lb : (oAdd (.d (.list xs)) (.bor ys) R) = (xs.length + ys.length ≤ sizeLine ∧ R (.own (xs ++ ys))) := rfl
theorem oAdd_ol : (oAdd (.own xs) (.d (.list ys)) R) = (xs.length + ys.length ≤ sizeLine ∧ R (.own (xs ++ ys))) := rfl
theorem oAdd_oo : (oAdd (.own xs) (.own ys) R) = (xs.length + ys.length ≤ sizeLine ∧ R (.own (xs ++ ys))) := rfl
theorem oAdd_ob : (oAdd (.own xs) (.bor ys) R) = (xs.length + ys.length ≤ sizeLine ∧ R (.own (xs ++ ys))) := rfl
theorem oAdd_bl : (oAdd (.bor xs) (.d (.list ys)) R) = (xs.length + ys.length ≤ sizeLine ∧ R (.own (xs ++ ys))) := rfl
theorem oAdd_bo : (oAdd (.bor xs) (.own ys) R) = (xs.length + ys.length ≤ sizeLine ∧ R (.own (xs ++ ys))) := rfl
theorem oAdd_bb : (oAdd (.bor xs) (.bor ys) R) = (xs.length + ys.length ≤ sizeLine ∧ R (.own (xs ++ ys))) := rfl
theorem oMul_i : (oMul (.d (.int i)) (.d (.int j)) R) = (CMul i j ∧ R (.d (.int (i * j)))) := rfl
theorem oMul_l : (oMul (.d (.list xs)) (.d (.int j)) R) = (-(2 ^ 63) ≤ j ∧ j < 2 ^ 63 ∧ xs.length * j.toNat ≤ sizeLine ∧ R (.own (List.replicate j.toNat xs).flatten)) := rfl
theorem oMul_o : (oMul (.own xs) (.d (.int j)) R) = (-(2 ^ 63) ≤ j ∧ j < 2 ^ 63 ∧ xs.length * j.toNat ≤ sizeLine ∧ R (.own (List.replicate j.toNat xs).flatten)) := rfl
theorem oMul_b : (oMul (.bor xs) (.d (.int j)) R) = (-(2 ^ 63) ≤ j ∧ j < 2 ^ 63 ∧ xs.length * j.toNat ≤ sizeLine ∧ R (.own (List.replicate j.toNat xs).flatten)) := rfl
theorem oNeg_i : (oNeg (.d (.int i)) R) = (R (.d (.int (-i)))) := rfl
theorem oIn_dtf : (oIn false (.d x) (.d (.tuple ys)) R) = (SeqAt.shaped (x) = true ∧ SeqAt.shaped (.list ys) = true ∧ R (.d (.bool ((ys.any fun z => PyData.eqv z (x)))))) := rfl
theorem oIn_dtt : (oIn true (.d x) (.d (.tuple ys)) R) = (SeqAt.shaped (x) = true ∧ SeqAt.shaped (.list ys) = true ∧ R (.d (.bool (!(ys.any fun z => PyData.eqv z (x)))))) := rfl
theorem oIn_dlf : (oIn false (.d x) (.d (.list ys)) R) = (SeqAt.shaped (x) = true ∧ SeqAt.shaped (.list ys) = true ∧ R (.d (.bool ((ys.any fun z => PyData.eqv z (x)))))) := rfl
theorem oIn_dlt : (oIn true (.d x) (.d (.list ys)) R) = (SeqAt.shaped (x) = true ∧ SeqAt.shaped (.list ys) = true ∧ R (.d (.bool (!(ys.any fun z => PyData.eqv z (x)))))) := rfl
theorem oIn_dof : (oIn false (.d x) (.own ys) R) = (SeqAt.shaped (x) = true ∧ SeqAt.shaped (.list ys) = true ∧ R (.d (.bool ((ys.any fun z => PyData.eqv z (x)))))) := rfl
theorem oIn_dot : (oIn true (.d x) (.own ys) R) = (SeqAt.shaped (x) = true ∧ SeqAt.shaped (.list ys) = true ∧ R (.d (.bool (!(ys.any fun z => PyData.eqv z (x)))))) := rfl
theorem oIn_dbf : (oIn false (.d x) (.bor ys) R) = (SeqAt.shaped (x) = true ∧ SeqAt.shaped (.list ys) = true ∧ R (.d (.bool ((ys.any fun z => PyData.eqv z (x)))))) := rfl
theorem oIn_dbt : (oIn true (.d x) (.bor ys) R) = (SeqAt.shaped (x) = true ∧ SeqAt.shaped (.list ys) = true ∧ R (.d (.bool (!(ys.any fun z => PyData.eqv z (x)))))) := rfl
theorem oIn_otf : (oIn false (.own xs) (.d (.tuple ys)) R) = (SeqAt.shaped (.list xs) = true ∧ SeqAt.shaped (.list ys) = true ∧ R (.d (.bool ((ys.any fun z => PyData.eqv z (.list xs)))))) := rfl
theorem oIn_ott : (oIn true (.own xs) (.d (.tuple ys)) R) = (SeqAt.shaped (.list xs) = true ∧ SeqAt.shaped (.list ys) = true ∧ R (.d (.bool (!(ys.any fun z => PyData.eqv z (.list xs)))))) := rfl
theorem oIn_olf : (oIn false (.own xs) (.d (.list ys)) R) = (SeqAt.shaped (.list xs) = true ∧ SeqAt.shaped (.list ys) = true ∧ R (.d (.bool ((ys.any fun z => PyData.eqv z (.list xs)))))) := rfl
theorem oIn_olt : (oIn true (.own xs) (.d (.list ys)) R) = (SeqAt.shaped (.list xs) = true ∧ SeqAt.shaped (.list ys) = true ∧ R (.d (.bool (!(ys.any fun z => PyData.eqv z (.list xs)))))) := rfl
theorem oIn_oof : (oIn false (.own xs) (.own ys) R) = (SeqAt.shaped (.list xs) = true ∧ SeqAt.shaped (.list ys) = true ∧ R (.d (.bool ((ys.any fun z => PyData.eqv z (.list xs)))))) := rfl
theorem oIn_oot : (oIn true (.own xs) (.own ys) R) = (SeqAt.shaped (.list xs) = true ∧ SeqAt.shaped (.list ys) = true ∧ R (.d (.bool (!(ys.any fun z => PyData.eqv z (.list xs)))))) := rfl
theorem oIn_obf : (oIn false (.own xs) (.bor ys) R) = (SeqAt.shaped (.list xs) = true ∧ SeqAt.shaped (.list ys) = true ∧ R (.d (.bool ((ys.any fun z => PyData.eqv z (.list xs)))))) := rfl
theorem oIn_obt : (oIn true (.own xs) (.bor ys) R) = (SeqAt.shaped (.list xs) = true ∧ SeqAt.shaped (.list ys) = true ∧ R (.d (.bool (!(ys.any fun z => PyData.eqv z (.list xs)))))) := rfl
theorem oIn_btf : (oIn false (.bor xs) (.d (.tuple ys)) R) = (SeqAt.shaped (.list xs) = true ∧ SeqAt.shaped (.list ys) = true ∧ R (.d (.bool ((ys.any fun z => PyData.eqv z (.list xs)))))) := rfl
theorem oIn_btt : (oIn true (.bor xs) (.d (.tuple ys)) R) = (SeqAt.shaped (.list xs) = true ∧ SeqAt.shaped (.list ys) = true ∧ R (.d (.bool (!(ys.any fun z => PyData.eqv z (.list xs)))))) := rfl
theorem oIn_blf : (oIn false (.bor xs) (.d (.list ys)) R) = (SeqAt.shaped (.list xs) = true ∧ SeqAt.shaped (.list ys) = true ∧ R (.d (.bool ((ys.any fun z => PyData.eqv z (.list xs)))))) := rfl
theorem oIn_blt : (oIn true (.bor xs) (.d (.list ys)) R) = (SeqAt.shaped (.list xs) = true ∧ SeqAt.shaped (.list ys) = true ∧ R (.d (.bool (!(ys.any fun z => PyData.eqv z (.list xs)))))) := rfl
theorem oIn_bof : (oIn false (.bor xs) (.own ys) R) = (SeqAt.shaped (.list xs) = true ∧ SeqAt.shaped (.list ys) = true ∧ R (.d (.bool ((ys.any fun z => PyData.eqv z (.list xs)))))) := rfl
theorem oIn_bot : (oIn true (.bor xs) (.own ys) R) = (SeqAt.shaped (.list xs) = true ∧ SeqAt.shaped (.list ys) = true ∧ R (.d (.bool (!(ys.any fun z => PyData.eqv z (.list xs)))))) := rfl
theorem oIn_bbf : (oIn false (.bor xs) (.bor ys) R) = (SeqAt.shaped (.list xs) = true ∧ SeqAt.shaped (.list ys) = true ∧ R (.d (.bool ((ys.any fun z => PyData.eqv z (.list xs)))))) := rfl
theorem oIn_bbt : (oIn true (.bor xs) (.bor ys) R) = (SeqAt.shaped (.list xs) = true ∧ SeqAt.shaped (.list ys) = true ∧ R (.d (.bool (!(ys.any fun z => PyData.eqv z (.list xs)))))) := rfl
theorem oIsN_nnf : (oIsN false (.d .none) (.d .none) R) = (R (.d (.bool true))) := rfl
theorem oIsN_if : (oIsN false (.d (.int i)) (.d .none) R) = (R (.d (.bool false))) := rfl
theorem oIsN_bf : (oIsN false (.d (.bool b)) (.d .none) R) = (R (.d (.bool false))) := rfl
theorem oIsN_sf : (oIsN false (.d (.str s)) (.d .none) R) = (R (.d (.bool false))) := rfl
theorem oIsN_tf : (oIsN false (.d (.tuple xs)) (.d .none) R) = (R (.d (.bool false))) := rfl
theorem oIsN_lf : (oIsN false (.d (.list xs)) (.d .none) R) = (R (.d (.bool false))) := rfl
theorem oIsN_of : (oIsN false (.own xs) (.d .none) R) = (R (.d (.bool false))) := rfl
theorem oIsN_rf : (oIsN false (.bor xs) (.d .none) R) = (R (.d (.bool false))) := rfl
theorem oIsN_nnt : (oIsN true (.d .none) (.d .none) R) = (R (.d (.bool false))) := rfl
theorem oIsN_it : (oIsN true (.d (.int i)) (.d .none) R) = (R (.d (.bool true))) := rfl
theorem oIsN_bt : (oIsN true (.d (.bool b)) (.d .none) R) = (R (.d (.bool true))) := rfl
theorem oIsN_st : (oIsN true (.d (.str s)) (.d .none) R) = (R (.d (.bool true))) := rfl
theorem oIsN_tt : (oIsN true (.d (.tuple xs)) (.d .none) R) = (R (.d (.bool true))) := rfl
theorem oIsN_lt : (oIsN true (.d (.list xs)) (.d .none) R) = (R (.d (.bool true))) := rfl
theorem oIsN_ot : (oIsN true (.own xs) (.d .none) R) = (R (.d (.bool true))) := rfl
theorem oIsN_rt : (oIsN true (.bor xs) (.d .none) R) = (R (.d (.bool true))) := rfl
theorem oIx_t : (oIx (.d (.tuple xs)) (.d (.int i)) R) = (match atI xs i with | some d => R (.d d) | none => False) := rfl
theorem oLen_t : (oLen (.d (.tuple xs)) R) = (R (.d (.int xs.length))) := rfl
theorem oList_t : (oList (.d (.tuple xs)) R) = (R (.own xs)) := rfl
theorem oIx_l : (oIx (.d (.list xs)) (.d (.int i)) R) = (match atI xs i with | some d => R (.d d) | none => False) := rfl
theorem oLen_l : (oLen (.d (.list xs)) R) = (R (.d (.int xs.length))) := rfl
theorem oList_l : (oList (.d (.list xs)) R) = (R (.own xs)) := rfl
theorem oIx_o : (oIx (.own xs) (.d (.int i)) R) = (match atI xs i with | some d => R (.d d) | none => False) := rfl
theorem oLen_o : (oLen (.own xs) R) = (R (.d (.int xs.length))) := rfl
theorem oList_o : (oList (.own xs) R) = (R (.own xs)) := rfl
theorem oIx_b : (oIx (.bor xs) (.d (.int i)) R) = (match atI xs i with | some d => R (.d d) | none => False) := rfl
theorem oLen_b : (oLen (.bor xs) R) = (R (.d (.int xs.length))) := rfl
theorem oList_b : (oList (.bor xs) R) = (R (.own xs)) := rfl
theorem oLen_s : (oLen (.scr ns) R) = (R (.d (.int ns.length))) := rfl
theorem oLen_x : (oLen (.d (.str s)) R) = (s.length ≤ sizeLine ∧ R (.d (.int s.length))) := rfl
theorem oAbs_i : (oAbs (.d (.int i)) R) = (R (.d (.int (if i < 0 then -i else i)))) := rfl
theorem oMax2_i : (oMax2 (.d (.int i)) (.d (.int j)) R) = (R (.d (.int (if j > i then j else i)))) := rfl
theorem oMin2_i : (oMin2 (.d (.int i)) (.d (.int j)) R) = (R (.d (.int (if j < i then j else i)))) := rfl
theorem oInt_i : (oInt (.d (.int i)) R) = (R (.d (.int i))) := rfl
theorem oInt_b : (oInt (.d (.bool b)) R) = (R (.d (.int (if b then 1 else 0)))) := rfl
theorem oTuple_t : (oTuple (.d (.tuple xs)) R) = (R (.d (.tuple xs))) := rfl
theorem oTuple_l : (oTuple (.d (.list xs)) R) = (R (.d (.tuple xs))) := rfl
theorem oTuple_o : (oTuple (.own xs) R) = (R (.d (.tuple xs))) := rfl
theorem oTuple_b : (oTuple (.bor xs) R) = (R (.d (.tuple xs))) := rfl
variable {o : List Int → (DV → Prop) → Prop}
theorem oInts_l : (oInts o (.d (.list xs)) R) = (match intsOf xs with | some ns => o ns R | none => False) := rfl
theorem oInts_o : (oInts o (.own xs) R) = (match intsOf xs with | some ns => o ns R | none => False) := rfl
theorem oInts_b : (oInts o (.bor xs) R) = (match intsOf xs with | some ns => o ns R | none => False) := rfl
theorem oIsi_d {T : String} : (oIsi (.d x) (.raw (.ty T)) R) = (T ∈ tys ∧ R (.d (.bool (isTy (x) T)))) := rfl
theorem oIsi_o {T : String} : (oIsi (.own xs) (.raw (.ty T)) R) = (T ∈ tys ∧ R (.d (.bool (isTy (.list xs) T)))) := rfl
theorem oIsi_b {T : String} : (oIsi (.bor xs) (.raw (.ty T)) R) = (T ∈ tys ∧ R (.d (.bool (isTy (.list xs) T)))) := rfl
variable {lo hi : Option Int}
theorem oSl_t : (oSl (.d (.tuple xs)) lo hi R) = (R (.d (.tuple (cutD xs lo hi)))) := rfl
theorem oSl_l : (oSl (.d (.list xs)) lo hi R) = (R (.own (cutD xs lo hi))) := rfl
theorem oSl_o : (oSl (.own xs) lo hi R) = (R (.own (cutD xs lo hi))) := rfl
theorem oSl_b : (oSl (.bor xs) lo hi R) = (R (.own (cutD xs lo hi))) := rfl
theorem oSl_s : (oSl (.scr ns) lo hi R) = (R (.own (cutD (ns.map .int) lo hi))) := rfl
theorem oBack_t : (oBack (.d (.tuple xs)) R) = (R (.d (.tuple xs.reverse))) := rfl
theorem oBack_l : (oBack (.d (.list xs)) R) = (R (.own xs.reverse)) := rfl
theorem oBack_o : (oBack (.own xs) R) = (R (.own xs.reverse)) := rfl
theorem oBack_b : (oBack (.bor xs) R) = (R (.own xs.reverse)) := rfl
end
theorem at0 {a : PyData} {l : List PyData} : atI (a :: l) 0 = some a := atI_nat (j := 0) rfl
theorem at1 {a b : PyData} {l : List PyData} : atI (a :: b :: l) 1 = some b := atI_nat (j := 1) rfl
theorem at2 {a b c : PyData} {l : List PyData} : atI (a :: b :: c :: l) 2 = some c := atI_nat (j := 2) rfl
theorem ixN_nat {n s : Nat} (h : s < n) : ixN n (s : Nat) = some s := by
  unfold ixN
  rw [if_pos (by omega), if_pos (by omega)]
  simp
theorem oI_T {f : Int → Int → Int} {i j : Int} {R : DV → Prop} : (oI (fun _ _ => True) f (.d (.int i)) (.d (.int j)) R) = (R (.d (.int (f i j)))) := by simp [oI]
section
variable {x y : PyData} {xs ys : List PyData} {i : Int} {b : Bool} {s t : Str} {kv : List (PyData × PyData)} {R : DV → Prop}
theorem oEq_ssf : (oEq false (.d (.str s)) (.d (.str t)) R) = (R (.d (.bool (PyData.eqv (.str s) (.str t))))) := rfl
theorem oEq_ndf : (oEq false (.d (.none)) (.d y) R) = (SeqAt.shaped (.none) = true ∧ SeqAt.shaped (y) = true ∧ R (.d (.bool (PyData.eqv (.none) (y))))) := rfl
theorem oEq_nof : (oEq false (.d (.none)) (.own ys) R) = (SeqAt.shaped (.none) = true ∧ SeqAt.shaped (.list ys) = true ∧ R (.d (.bool (PyData.eqv (.none) (.list ys))))) := rfl
theorem oEq_nrf : (oEq false (.d (.none)) (.bor ys) R) = (SeqAt.shaped (.none) = true ∧ SeqAt.shaped (.list ys) = true ∧ R (.d (.bool (PyData.eqv (.none) (.list ys))))) := rfl
theorem oEq_dnf : (oEq false (.d x) (.d (.none)) R) = (SeqAt.shaped (x) = true ∧ SeqAt.shaped (.none) = true ∧ R (.d (.bool (PyData.eqv (x) (.none))))) := by cases x <;> rfl
theorem oEq_bdf : (oEq false (.d (.bool b)) (.d y) R) = (SeqAt.shaped (.bool b) = true ∧ SeqAt.shaped (y) = true ∧ R (.d (.bool (PyData.eqv (.bool b) (y))))) := rfl
theorem oEq_bof : (oEq false (.d (.bool b)) (.own ys) R) = (SeqAt.shaped (.bool b) = true ∧ SeqAt.shaped (.list ys) = true ∧ R (.d (.bool (PyData.eqv (.bool b) (.list ys))))) := rfl
theorem oEq_brf : (oEq false (.d (.bool b)) (.bor ys) R) = (SeqAt.shaped (.bool b) = true ∧ SeqAt.shaped (.list ys) = true ∧ R (.d (.bool (PyData.eqv (.bool b) (.list ys))))) := rfl
theorem oEq_dbf : (oEq false (.d x) (.d (.bool b)) R) = (SeqAt.shaped (x) = true ∧ SeqAt.shaped (.bool b) = true ∧ R (.d (.bool (PyData.eqv (x) (.bool b))))) := by cases x <;> rfl
theorem oEq_idf : (oEq false (.d (.int i)) (.d y) R) = (SeqAt.shaped (.int i) = true ∧ SeqAt.shaped (y) = true ∧ R (.d (.bool (PyData.eqv (.int i) (y))))) := rfl
theorem oEq_iof : (oEq false (.d (.int i)) (.own ys) R) = (SeqAt.shaped (.int i) = true ∧ SeqAt.shaped (.list ys) = true ∧ R (.d (.bool (PyData.eqv (.int i) (.list ys))))) := rfl
theorem oEq_irf : (oEq false (.d (.int i)) (.bor ys) R) = (SeqAt.shaped (.int i) = true ∧ SeqAt.shaped (.list ys) = true ∧ R (.d (.bool (PyData.eqv (.int i) (.list ys))))) := rfl
theorem oEq_dif : (oEq false (.d x) (.d (.int i)) R) = (SeqAt.shaped (x) = true ∧ SeqAt.shaped (.int i) = true ∧ R (.d (.bool (PyData.eqv (x) (.int i))))) := by cases x <;> rfl
theorem oEq_ldf : (oEq false (.d (.list xs)) (.d y) R) = (SeqAt.shaped (.list xs) = true ∧ SeqAt.shaped (y) = true ∧ R (.d (.bool (PyData.eqv (.list xs) (y))))) := rfl
theorem oEq_lof : (oEq false (.d (.list xs)) (.own ys) R) = (SeqAt.shaped (.list xs) = true ∧ SeqAt.shaped (.list ys) = true ∧ R (.d (.bool (PyData.eqv (.list xs) (.list ys))))) := rfl
theorem oEq_lrf : (oEq false (.d (.list xs)) (.bor ys) R) = (SeqAt.shaped (.list xs) = true ∧ SeqAt.shaped (.list ys) = true ∧ R (.d (.bool (PyData.eqv (.list xs) (.list ys))))) := rfl
theorem oEq_dlf : (oEq false (.d x) (.d (.list xs)) R) = (SeqAt.shaped (x) = true ∧ SeqAt.shaped (.list xs) = true ∧ R (.d (.bool (PyData.eqv (x) (.list xs))))) := by cases x <;> rfl
theorem oEq_tdf : (oEq false (.d (.tuple xs)) (.d y) R) = (SeqAt.shaped (.tuple xs) = true ∧ SeqAt.shaped (y) = true ∧ R (.d (.bool (PyData.eqv (.tuple xs) (y))))) := rfl
theorem oEq_tof : (oEq false (.d (.tuple xs)) (.own ys) R) = (SeqAt.shaped (.tuple xs) = true ∧ SeqAt.shaped (.list ys) = true ∧ R (.d (.bool (PyData.eqv (.tuple xs) (.list ys))))) := rfl
theorem oEq_trf : (oEq false (.d (.tuple xs)) (.bor ys) R) = (SeqAt.shaped (.tuple xs) = true ∧ SeqAt.shaped (.list ys) = true ∧ R (.d (.bool (PyData.eqv (.tuple xs) (.list ys))))) := rfl
theorem oEq_dtf : (oEq false (.d x) (.d (.tuple xs)) R) = (SeqAt.shaped (x) = true ∧ SeqAt.shaped (.tuple xs) = true ∧ R (.d (.bool (PyData.eqv (x) (.tuple xs))))) := by cases x <;> rfl
theorem oEq_kdf : (oEq false (.d (.dict kv)) (.d y) R) = (SeqAt.shaped (.dict kv) = true ∧ SeqAt.shaped (y) = true ∧ R (.d (.bool (PyData.eqv (.dict kv) (y))))) := rfl
theorem oEq_kof : (oEq false (.d (.dict kv)) (.own ys) R) = (SeqAt.shaped (.dict kv) = true ∧ SeqAt.shaped (.list ys) = true ∧ R (.d (.bool (PyData.eqv (.dict kv) (.list ys))))) := rfl
theorem oEq_krf : (oEq false (.d (.dict kv)) (.bor ys) R) = (SeqAt.shaped (.dict kv) = true ∧ SeqAt.shaped (.list ys) = true ∧ R (.d (.bool (PyData.eqv (.dict kv) (.list ys))))) := rfl
theorem oEq_dkf : (oEq false (.d x) (.d (.dict kv)) R) = (SeqAt.shaped (x) = true ∧ SeqAt.shaped (.dict kv) = true ∧ R (.d (.bool (PyData.eqv (x) (.dict kv))))) := by cases x <;> rfl
theorem oEq_odf : (oEq false (.own xs) (.d y) R) = (SeqAt.shaped (.list xs) = true ∧ SeqAt.shaped (y) = true ∧ R (.d (.bool (PyData.eqv (.list xs) (y))))) := rfl
theorem oEq_oof : (oEq false (.own xs) (.own ys) R) = (SeqAt.shaped (.list xs) = true ∧ SeqAt.shaped (.list ys) = true ∧ R (.d (.bool (PyData.eqv (.list xs) (.list ys))))) := rfl
theorem oEq_orf : (oEq false (.own xs) (.bor ys) R) = (SeqAt.shaped (.list xs) = true ∧ SeqAt.shaped (.list ys) = true ∧ R (.d (.bool (PyData.eqv (.list xs) (.list ys))))) := rfl
theorem oEq_dof : (oEq false (.d x) (.own xs) R) = (SeqAt.shaped (x) = true ∧ SeqAt.shaped (.list xs) = true ∧ R (.d (.bool (PyData.eqv (x) (.list xs))))) := by cases x <;> rfl
theorem oEq_rdf : (oEq false (.bor xs) (.d y) R) = (SeqAt.shaped (.list xs) = true ∧ SeqAt.shaped (y) = true ∧ R (.d (.bool (PyData.eqv (.list xs) (y))))) := rfl
theorem oEq_rof : (oEq false (.bor xs) (.own ys) R) = (SeqAt.shaped (.list xs) = true ∧ SeqAt.shaped (.list ys) = true ∧ R (.d (.bool (PyData.eqv (.list xs) (.list ys))))) := rfl
theorem oEq_rrf : (oEq false (.bor xs) (.bor ys) R) = (SeqAt.shaped (.list xs) = true ∧ SeqAt.shaped (.list ys) = true ∧ R (.d (.bool (PyData.eqv (.list xs) (.list ys))))) := rfl
theorem oEq_drf : (oEq false (.d x) (.bor xs) R) = (SeqAt.shaped (x) = true ∧ SeqAt.shaped (.list xs) = true ∧ R (.d (.bool (PyData.eqv (x) (.list xs))))) := by cases x <;> rfl
theorem oEq_sst : (oEq true (.d (.str s)) (.d (.str t)) R) = (R (.d (.bool (!PyData.eqv (.str s) (.str t))))) := rfl
theorem oEq_ndt : (oEq true (.d (.none)) (.d y) R) = (SeqAt.shaped (.none) = true ∧ SeqAt.shaped (y) = true ∧ R (.d (.bool (!PyData.eqv (.none) (y))))) := rfl
theorem oEq_not : (oEq true (.d (.none)) (.own ys) R) = (SeqAt.shaped (.none) = true ∧ SeqAt.shaped (.list ys) = true ∧ R (.d (.bool (!PyData.eqv (.none) (.list ys))))) := rfl
theorem oEq_nrt : (oEq true (.d (.none)) (.bor ys) R) = (SeqAt.shaped (.none) = true ∧ SeqAt.shaped (.list ys) = true ∧ R (.d (.bool (!PyData.eqv (.none) (.list ys))))) := rfl
theorem oEq_dnt : (oEq true (.d x) (.d (.none)) R) = (SeqAt.shaped (x) = true ∧ SeqAt.shaped (.none) = true ∧ R (.d (.bool (!PyData.eqv (x) (.none))))) := by cases x <;> rfl
theorem oEq_bdt : (oEq true (.d (.bool b)) (.d y) R) = (SeqAt.shaped (.bool b) = true ∧ SeqAt.shaped (y) = true ∧ R (.d (.bool (!PyData.eqv (.bool b) (y))))) := rfl
theorem oEq_bot : (oEq true (.d (.bool b)) (.own ys) R) = (SeqAt.shaped (.bool b) = true ∧ SeqAt.shaped (.list ys) = true ∧ R (.d (.bool (!PyData.eqv (.bool b) (.list ys))))) := rfl
theorem oEq_brt : (oEq true (.d (.bool b)) (.bor ys) R) = (SeqAt.shaped (.bool b) = true ∧ SeqAt.shaped (.list ys) = true ∧ R (.d (.bool (!PyData.eqv (.bool b) (.list ys))))) := rfl
theorem oEq_dbt : (oEq true (.d x) (.d (.bool b)) R) = (SeqAt.shaped (x) = true ∧ SeqAt.shaped (.bool b) = true ∧ R (.d (.bool (!PyData.eqv (x) (.bool b))))) := by cases x <;> rfl
theorem oEq_idt : (oEq true (.d (.int i)) (.d y) R) = (SeqAt.shaped (.int i) = true ∧ SeqAt.shaped (y) = true ∧ R (.d (.bool (!PyData.eqv (.int i) (y))))) := rfl
theorem oEq_iot : (oEq true (.d (.int i)) (.own ys) R) = (SeqAt.shaped (.int i) = true ∧ SeqAt.shaped (.list ys) = true ∧ R (.d (.bool (!PyData.eqv (.int i) (.list ys))))) := rfl
theorem oEq_irt : (oEq true (.d (.int i)) (.bor ys) R) = (SeqAt.shaped (.int i) = true ∧ SeqAt.shaped (.list ys) = true ∧ R (.d (.bool (!PyData.eqv (.int i) (.list ys))))) := rfl
theorem oEq_dit : (oEq true (.d x) (.d (.int i)) R) = (SeqAt.shaped (x) = true ∧ SeqAt.shaped (.int i) = true ∧ R (.d (.bool (!PyData.eqv (x) (.int i))))) := by cases x <;> rfl
theorem oEq_ldt : (oEq true (.d (.list xs)) (.d y) R) = (SeqAt.shaped (.list xs) = true ∧ SeqAt.shaped (y) = true ∧ R (.d (.bool (!PyData.eqv (.list xs) (y))))) := rfl
theorem oEq_lot : (oEq true (.d (.list xs)) (.own ys) R) = (SeqAt.shaped (.list xs) = true ∧ SeqAt.shaped (.list ys) = true ∧ R (.d (.bool (!PyData.eqv (.list xs) (.list ys))))) := rfl
theorem oEq_lrt : (oEq true (.d (.list xs)) (.bor ys) R) = (SeqAt.shaped (.list xs) = true ∧ SeqAt.shaped (.list ys) = true ∧ R (.d (.bool (!PyData.eqv (.list xs) (.list ys))))) := rfl
theorem oEq_dlt : (oEq true (.d x) (.d (.list xs)) R) = (SeqAt.shaped (x) = true ∧ SeqAt.shaped (.list xs) = true ∧ R (.d (.bool (!PyData.eqv (x) (.list xs))))) := by cases x <;> rfl
theorem oEq_tdt : (oEq true (.d (.tuple xs)) (.d y) R) = (SeqAt.shaped (.tuple xs) = true ∧ SeqAt.shaped (y) = true ∧ R (.d (.bool (!PyData.eqv (.tuple xs) (y))))) := rfl
theorem oEq_tot : (oEq true (.d (.tuple xs)) (.own ys) R) = (SeqAt.shaped (.tuple xs) = true ∧ SeqAt.shaped (.list ys) = true ∧ R (.d (.bool (!PyData.eqv (.tuple xs) (.list ys))))) := rfl
theorem oEq_trt : (oEq true (.d (.tuple xs)) (.bor ys) R) = (SeqAt.shaped (.tuple xs) = true ∧ SeqAt.shaped (.list ys) = true ∧ R (.d (.bool (!PyData.eqv (.tuple xs) (.list ys))))) := rfl
theorem oEq_dtt : (oEq true (.d x) (.d (.tuple xs)) R) = (SeqAt.shaped (x) = true ∧ SeqAt.shaped (.tuple xs) = true ∧ R (.d (.bool (!PyData.eqv (x) (.tuple xs))))) := by cases x <;> rfl
theorem oEq_kdt : (oEq true (.d (.dict kv)) (.d y) R) = (SeqAt.shaped (.dict kv) = true ∧ SeqAt.shaped (y) = true ∧ R (.d (.bool (!PyData.eqv (.dict kv) (y))))) := rfl
theorem oEq_kot : (oEq true (.d (.dict kv)) (.own ys) R) = (SeqAt.shaped (.dict kv) = true ∧ SeqAt.shaped (.list ys) = true ∧ R (.d (.bool (!PyData.eqv (.dict kv) (.list ys))))) := rfl
theorem oEq_krt : (oEq true (.d (.dict kv)) (.bor ys) R) = (SeqAt.shaped (.dict kv) = true ∧ SeqAt.shaped (.list ys) = true ∧ R (.d (.bool (!PyData.eqv (.dict kv) (.list ys))))) := rfl
theorem oEq_dkt : (oEq true (.d x) (.d (.dict kv)) R) = (SeqAt.shaped (x) = true ∧ SeqAt.shaped (.dict kv) = true ∧ R (.d (.bool (!PyData.eqv (x) (.dict kv))))) := by cases x <;> rfl
theorem oEq_odt : (oEq true (.own xs) (.d y) R) = (SeqAt.shaped (.list xs) = true ∧ SeqAt.shaped (y) = true ∧ R (.d (.bool (!PyData.eqv (.list xs) (y))))) := rfl
theorem oEq_oot : (oEq true (.own xs) (.own ys) R) = (SeqAt.shaped (.list xs) = true ∧ SeqAt.shaped (.list ys) = true ∧ R (.d (.bool (!PyData.eqv (.list xs) (.list ys))))) := rfl
theorem oEq_ort : (oEq true (.own xs) (.bor ys) R) = (SeqAt.shaped (.list xs) = true ∧ SeqAt.shaped (.list ys) = true ∧ R (.d (.bool (!PyData.eqv (.list xs) (.list ys))))) := rfl
theorem oEq_dot : (oEq true (.d x) (.own xs) R) = (SeqAt.shaped (x) = true ∧ SeqAt.shaped (.list xs) = true ∧ R (.d (.bool (!PyData.eqv (x) (.list xs))))) := by cases x <;> rfl
theorem oEq_rdt : (oEq true (.bor xs) (.d y) R) = (SeqAt.shaped (.list xs) = true ∧ SeqAt.shaped (y) = true ∧ R (.d (.bool (!PyData.eqv (.list xs) (y))))) := rfl
theorem oEq_rot : (oEq true (.bor xs) (.own ys) R) = (SeqAt.shaped (.list xs) = true ∧ SeqAt.shaped (.list ys) = true ∧ R (.d (.bool (!PyData.eqv (.list xs) (.list ys))))) := rfl
theorem oEq_rrt : (oEq true (.bor xs) (.bor ys) R) = (SeqAt.shaped (.list xs) = true ∧ SeqAt.shaped (.list ys) = true ∧ R (.d (.bool (!PyData.eqv (.list xs) (.list ys))))) := rfl
theorem oEq_drt : (oEq true (.d x) (.bor xs) R) = (SeqAt.shaped (x) = true ∧ SeqAt.shaped (.list xs) = true ∧ R (.d (.bool (!PyData.eqv (x) (.list xs))))) := by cases x <;> rfl
theorem oRepr_d : (oRepr (.d x) R) = (Shows (x) ∧ R (.d (.str (PyData.shown (x))))) := rfl
theorem oRepr_o : (oRepr (.own xs) R) = (Shows (.list xs) ∧ R (.d (.str (PyData.shown (.list xs))))) := rfl
theorem oRepr_b : (oRepr (.bor xs) R) = (Shows (.list xs) ∧ R (.d (.str (PyData.shown (.list xs))))) := rfl
end
end DL

namespace DL
open PySem PySem.Spec L2

/-! ## how large data is: enough for repr and for == -/
mutual
def wid : PyData → Nat
  | .none => 4
  | .bool _ => 5
  | .int _ => 1922
  | .str x => (reprText x).length
  | .list xs => 4 + widAll xs
  | .tuple xs => 4 + widAll xs
  | .dict _ => 0
def widAll : List PyData → Nat
  | [] => 0
  | x :: xs => wid x + 2 + widAll xs
end
theorem listText_le : ∀ ts : List Str, (listText ts).length ≤ 4 + piled ts
  | [] => by
    have : (listText []).length = 2 := rfl
    omega
  | t :: r => by
    have h := textFrom_length_pos r 1 (("[" : Str) ++ (if (0 : Nat) > 0 then ", " else "" : String) ++ t) (Nat.succ_pos 0)
    have e : ((("[" : Str) ++ (if (0 : Nat) > 0 then ", " else "" : String) ++ t)).length = 1 + t.length := by
      rw [strLen_append, strLen_append]; rfl
    have hX : (listText (t :: r)).length = (textFrom 0 "[" (t :: r)).length + 1 := by
      show (textFrom 0 "[" (t :: r) ++ "]").length = _
      rw [strLen_append]; rfl
    have hY : (textFrom 0 "[" (t :: r)).length = (textFrom 1 (("[" : Str) ++ (if (0 : Nat) > 0 then ", " else "" : String) ++ t) r).length := rfl
    rw [hX, hY, h, e, piled_cons]
    omega
theorem tupleText_le (ts : List Str) : (tupleText ts).length ≤ 4 + piled ts := by
  unfold tupleText
  rw [strLen_append, strLen_append]
  have h1 : (Str.ofString "(").length = 1 := rfl
  have h2 : (Str.ofString (if ts.length == 1 then ",)" else ")")).length ≤ 2 := by split <;> decide
  by_cases h : ts = []
  · subst h
    have h3 : (Str.join ", " ([] : List Str)).length = 0 := rfl
    have := piled_nil
    omega
  · have := join_length_add ts h
    omega
mutual
theorem shown_le : ∀ d : PyData, d.hasDict = false → d.showable = true → d.shown.length ≤ wid d
  | .none, _, _ => by
    have : (PyData.shown .none).length = 4 := by simp only [PyData.shown]; rfl
    simp only [wid]; omega
  | .bool b, _, _ => by
    have : (PyData.shown (.bool b)).length ≤ 5 := by simp only [PyData.shown]; cases b <;> decide
    simp only [wid]; omega
  | .int i, _, h => by
    have h' : i.natAbs.log2 < 1920 := by simpa [PyData.showable] using h
    have e := int_text_length_le (k := 1920) (by decide) h'
    have : (PyData.shown (.int i)).length = (toString i).length := by simp only [PyData.shown]; exact ofString_length _
    simp only [wid]; omega
  | .str x, _, _ => by simp only [PyData.shown, wid]; exact Nat.le_refl _
  | .list xs, h1, h2 => by
    have := shownAll_le xs (by simpa [PyData.hasDict] using h1) (by simpa [PyData.showable] using h2)
    have := listText_le (PyData.shownAll xs)
    simp only [PyData.shown, wid]; omega
  | .tuple xs, h1, h2 => by
    have := shownAll_le xs (by simpa [PyData.hasDict] using h1) (by simpa [PyData.showable] using h2)
    have := tupleText_le (PyData.shownAll xs)
    simp only [PyData.shown, wid]; omega
  | .dict _, h, _ => by simp [PyData.hasDict] at h
theorem shownAll_le : ∀ xs : List PyData, PyData.hasDictAll xs = false → PyData.showableAll xs = true → piled (PyData.shownAll xs) ≤ widAll xs
  | [], _, _ => Nat.le_refl _
  | x :: xs, h1, h2 => by
    simp only [PyData.hasDictAll, Bool.or_eq_false_iff] at h1
    simp only [PyData.showableAll, Bool.and_eq_true] at h2
    have a := shown_le x h1.1 h2.1
    have b := shownAll_le xs h1.2 h2.2
    simp only [PyData.shownAll, piled_cons, widAll]
    omega
end
structure Sz (d : PyData) (dp wd : Nat) : Prop where
  nd : d.hasDict = false
  sh : d.showable = true
  de : d.depth ≤ dp
  wi : wid d ≤ wd
  ly : d.canLay0 = true
structure SzA (xs : List PyData) (dp wd : Nat) : Prop where
  nd : PyData.hasDictAll xs = false
  sh : PyData.showableAll xs = true
  de : PyData.depthAll xs ≤ dp
  wi : widAll xs ≤ xs.length * (wd + 2)
  ly : PyData.canLayAll0 xs = true
theorem szA {dp wd : Nat} : ∀ {xs : List PyData}, (∀ x ∈ xs, Sz x dp wd) → SzA xs dp wd
  | [], _ => ⟨rfl, rfl, Nat.zero_le _, by simp [widAll], rfl⟩
  | x :: xs, h => by
    have a := h x (by simp)
    have b := szA (xs := xs) fun y hy => h y (by simp [hy])
    refine ⟨by simp [PyData.hasDictAll, a.nd, b.nd], by simp [PyData.showableAll, a.sh, b.sh], ?_, ?_, by simp [PyData.canLayAll0, a.ly, b.ly]⟩
    · simp only [PyData.depthAll]
      have := a.de; have := b.de
      omega
    · have := a.wi; have := b.wi
      simp only [widAll, List.length_cons, Nat.succ_mul]
      omega
theorem Sz.int {i : Int} (h : i.natAbs.log2 < 1920) : Sz (.int i) 0 1922 := ⟨rfl, by simp [PyData.showable, h], Nat.le_refl _, Nat.le_refl _, rfl⟩
theorem log_lt {i : Int} (h : -(2 ^ 1900) ≤ i ∧ i ≤ 2 ^ 1900) : i.natAbs.log2 < 1920 := by
  have h1 : i.natAbs ≤ 2 ^ 1900 := by
    have e : ((2 ^ 1900 : Nat) : Int) = 2 ^ 1900 := by norm_cast
    omega
  by_cases h0 : i.natAbs = 0
  · rw [h0]; decide
  · have := (Nat.log2_lt h0 (k := 1901)).mpr (Nat.lt_of_le_of_lt h1 (Nat.pow_lt_pow_right (by decide) (by decide)))
    omega
theorem Sz.int' {i : Int} (h : -(2 ^ 100) ≤ i ∧ i ≤ 2 ^ 100) : Sz (.int i) 0 1922 := Sz.int (log_lt ⟨by
    have : (2 : Int) ^ 100 ≤ 2 ^ 1900 := by decide +kernel
    omega, by
    have : (2 : Int) ^ 100 ≤ 2 ^ 1900 := by decide +kernel
    omega⟩)
theorem Sz.mono {d : PyData} {a b a' b' : Nat} (h : Sz d a b) (ha : a ≤ a') (hb : b ≤ b') : Sz d a' b' := ⟨h.nd, h.sh, Nat.le_trans h.de ha, Nat.le_trans h.wi hb, h.ly⟩
theorem Sz.tup {xs : List PyData} {dp wd n : Nat} (h : ∀ x ∈ xs, Sz x dp wd) (hn : xs.length ≤ n) : Sz (.tuple xs) (dp + 1) (4 + n * (wd + 2)) := by
  have b := szA h
  have hm : xs.length * (wd + 2) ≤ n * (wd + 2) := Nat.mul_le_mul_right _ hn
  exact ⟨by simp [PyData.hasDict, b.nd], by simp [PyData.showable, b.sh], by simp only [PyData.depth]; have := b.de; omega, by simp only [wid]; have := b.wi; omega, by simp [PyData.canLay0, b.ly]⟩
theorem Sz.lst {xs : List PyData} {dp wd n : Nat} (h : ∀ x ∈ xs, Sz x dp wd) (hn : xs.length ≤ n) : Sz (.list xs) (dp + 1) (4 + n * (wd + 2)) := by
  have b := szA h
  have hm : xs.length * (wd + 2) ≤ n * (wd + 2) := Nat.mul_le_mul_right _ hn
  exact ⟨by simp [PyData.hasDict, b.nd], by simp [PyData.showable, b.sh], by simp only [PyData.depth]; have := b.de; omega, by simp only [wid]; have := b.wi; omega, by simp [PyData.canLay0, b.ly]⟩
theorem Sz.pair {x y : PyData} {dp wd : Nat} (hx : Sz x dp wd) (hy : Sz y dp wd) : Sz (.tuple [x, y]) (dp + 1) (4 + 2 * (wd + 2)) := Sz.tup (fun z hz => by
  rcases List.mem_cons.mp hz with rfl | hz
  · exact hx
  · rcases List.mem_cons.mp hz with rfl | hz
    · exact hy
    · cases hz) (by simp)
theorem Sz.shows {d : PyData} {dp wd : Nat} (h : Sz d dp wd) (h1 : dp ≤ 30) (h2 : wd ≤ 16000000) : Shows d := ⟨h.nd, h.sh, by
  have := shown_le d h.nd h.sh
  have := h.wi
  rw [sizeLine_eq]; omega, Nat.le_trans h.de h1⟩
theorem Sz.shaped {d : PyData} {dp wd : Nat} (h : Sz d dp wd) (h1 : dp ≤ 64 := by decide) : SeqAt.shaped d = true := by
  unfold SeqAt.shaped
  rw [h.ly, Bool.true_and]
  exact decide_eq_true (Nat.le_trans h.de h1)
/-- numbers need no size for == -/
theorem shaped_ints (ns : List Int) : SeqAt.shaped (.list (ns.map PyData.int)) = true := by
  have h1 : ∀ ns : List Int, PyData.canLayAll0 (ns.map PyData.int) = true := fun ns => by
    induction ns with
    | nil => rfl
    | cons n ns ih => simp [PyData.canLayAll0, PyData.canLay0, ih]
  have h2 : ∀ ns : List Int, PyData.depthAll (ns.map PyData.int) = 0 := fun ns => by
    induction ns with
    | nil => rfl
    | cons n ns ih => simp [PyData.depthAll, PyData.depth, ih]
  unfold SeqAt.shaped
  simp [PyData.canLay0, PyData.depth, h1, h2]
theorem shaped_int (i : Int) : SeqAt.shaped (.int i) = true := by simp [SeqAt.shaped, PyData.canLay0, PyData.depth]
theorem eqv_ints : ∀ ns ms : List Int, PyData.eqvAll (ns.map PyData.int) (ms.map PyData.int) = decide (ns = ms)
  | [], [] => rfl
  | [], _ :: _ => rfl
  | _ :: _, [] => rfl
  | n :: ns, m :: ms => by
    simp only [List.map_cons, PyData.eqvAll, PyData.eqv, eqv_ints ns ms]
    by_cases h : n = m
    · subst h; simp
    · simp [h]
theorem any_ints (ns : List Int) (i : Int) : ((ns.map PyData.int).any fun z => PyData.eqv z (.int i)) = decide (i ∈ ns) := by
  induction ns with
  | nil => simp
  | cons n ns ih =>
    simp only [List.map_cons, List.any_cons, ih, PyData.eqv, List.mem_cons]
    by_cases h : n = i
    · subst h; simp
    · have h' : ¬ i = n := fun z => h z.symm
      simp [h, h']
theorem intsOf_map' (ns : List Int) : intsOf (ns.map PyData.int) = some ns := intsOf_map ns
theorem mem_range_int {n : Nat} {d : PyData} {lo : Int} : d ∈ rangeD lo n ↔ ∃ i : Nat, i < n ∧ d = .int (lo + (i : Nat)) := by
  unfold rangeD
  simp only [List.mem_map, List.mem_range]
  constructor
  · rintro ⟨i, h, rfl⟩; exact ⟨i, h, rfl⟩
  · rintro ⟨i, h, rfl⟩; exact ⟨i, h, rfl⟩

end DL
/-! side conditions of size -/
local macro_rules | `(tactic| walk_at "lim") => `(tactic| first | omega | (simp only [PySem.sizeLine_eq, List.length_reverse, List.length_append, List.length_map, List.length_cons, List.length_nil]; omega) | decide | decide +kernel)
namespace DL
open PySem PySem.Spec L2
theorem if_dec {p : Prop} [Decidable p] {A B : Prop} (h1 : p → A) (h2 : ¬ p → B) : (decide p = true → A) ∧ (decide p = false → B) := ⟨fun h => h1 (of_decide_eq_true h), fun h => h2 (of_decide_eq_false h)⟩
theorem if_ndec {p : Prop} [Decidable p] {A B : Prop} (h1 : ¬ p → A) (h2 : p → B) : ((!decide p) = true → A) ∧ ((!decide p) = false → B) := ⟨fun h => h1 (by simpa using h), fun h => h2 (by simpa using h)⟩
/-! ## walks -/
/-- a for by an invariant over what is left -/
theorem for_ind {g : MG} {b : MS} {ex : XD} {E : DEnds} (I : List PyData → Env → Prop) (h0 : ∀ δ, I [] δ → E.nx δ)
    (hs : ∀ d ds δ (K : Env → Prop), I (d :: ds) δ → (∀ δ', I ds δ' → K δ') → g (.d d) δ fun δ' => b ex { nx := K, ct := K, bk := E.nx, rt := E.rt } δ') : ∀ ds δ, I ds δ → forRun g b ex E ds δ
  | [], δ, h => h0 δ h
  | d :: ds, δ, h => hs d ds δ _ h fun δ' h' => for_ind I h0 hs ds δ' h'
/-- by an invariant over how many items are done -/
theorem for_at {g : MG} {b : MS} {ex : XD} {E : DEnds} {ds : List PyData} {δ : Env} (I : Nat → Env → Prop) (hi : I 0 δ) (h0 : ∀ δ, I ds.length δ → E.nx δ)
    (hs : ∀ k d δ (K : Env → Prop), ds[k]? = some d → I k δ → (∀ δ', I (k + 1) δ' → K δ') → g (.d d) δ fun δ' => b ex { nx := K, ct := K, bk := E.nx, rt := E.rt } δ') : forRun g b ex E ds δ := by
  refine for_ind (fun l δ => ∃ k, k ≤ ds.length ∧ l = ds.drop k ∧ I k δ) (fun δ ⟨k, hk, e, h⟩ => ?_) (fun d l δ K ⟨k, hk, e, h⟩ hK => ?_) ds δ ⟨0, Nat.zero_le _, rfl, hi⟩
  · have : ds.length ≤ k := by
      have := congrArg List.length e
      simp at this
      omega
    have hk' : k = ds.length := by omega
    subst hk'
    exact h0 δ h
  · have hlt : k < ds.length := by
      have := congrArg List.length e
      simp at this
      omega
    have hd : ds[k]? = some d := by
      have : (ds.drop k)[0]? = some d := by rw [← e]; rfl
      simpa using this
    refine hs k d δ K hd h fun δ' h' => hK δ' ⟨k + 1, hlt, ?_, h'⟩
    have := drop_cons hd
    rw [this] at e
    exact (List.cons.inj e).2
theorem for_range {g : MG} {b : MS} {ex : XD} {E : DEnds} {lo : Int} {n : Nat} {δ : Env} (I : Nat → Env → Prop) (hi : I 0 δ) (h0 : ∀ δ, I n δ → E.nx δ)
    (hs : ∀ k δ (K : Env → Prop), k < n → I k δ → (∀ δ', I (k + 1) δ' → K δ') → g (.d (.int (lo + (k : Nat)))) δ fun δ' => b ex { nx := K, ct := K, bk := E.nx, rt := E.rt } δ') : forRun g b ex E (rangeD lo n) δ := by
  refine for_at I hi (fun δ h => h0 δ (by rwa [rangeD_len] at h)) fun k d δ K hd h hK => ?_
  rw [rangeD_get] at hd
  split at hd
  · rename_i hk
    cases hd
    exact hs k δ K hk h hK
  · cases hd
theorem for_down {g : MG} {b : MS} {ex : XD} {E : DEnds} {lo : Int} {n : Nat} {δ : Env} (I : Nat → Env → Prop) (hi : I 0 δ) (h0 : ∀ δ, I n δ → E.nx δ)
    (hs : ∀ k δ (K : Env → Prop), k < n → I k δ → (∀ δ', I (k + 1) δ' → K δ') → g (.d (.int (lo - (k : Nat)))) δ fun δ' => b ex { nx := K, ct := K, bk := E.nx, rt := E.rt } δ') : forRun g b ex E (downD lo n) δ := by
  refine for_at I hi (fun δ h => h0 δ (by rwa [downD_len] at h)) fun k d δ K hd h hK => ?_
  rw [downD_get] at hd
  split at hd
  · rename_i hk
    cases hd
    exact hs k δ K hk h hK
  · cases hd
/-- a comprehension, item by item -/
theorem lc_ind {g : MG} {tt : MT} {te : ME} {δ : Env} {R : DV → Prop} (out : PyData → Option PyData) : ∀ (ds acc : List PyData),
    (∀ d ∈ ds, ∀ (K1 : PyData → Prop) (K0 : Prop), (∀ z, out d = some z → K1 z) → (out d = none → K0) → g (.d d) δ fun δ' => tt ex0 δ' fun c => (c = true → te ex0 δ' fun y => match y.val with
      | some z => K1 z
      | none => False) ∧ (c = false → K0)) → acc.length + ds.length ≤ sizeLine → R (.own (acc ++ ds.filterMap out)) → lcRun g tt te δ R ds acc
  | [], acc, _, _, h => by
    unfold lcRun
    simpa using h
  | d :: ds, acc, hs, hz, h => by
    unfold lcRun
    rw [List.length_cons] at hz
    refine hs d (by simp) (fun z => acc.length < sizeLine ∧ lcRun g tt te δ R ds (acc ++ [z])) (lcRun g tt te δ R ds acc) (fun z e => ⟨by omega, ?_⟩) fun e => ?_
    · refine lc_ind out ds (acc ++ [z]) (fun d' hd' => hs d' (by simp [hd'])) (by simp; omega) ?_
      simpa [List.filterMap_cons, e] using h
    · refine lc_ind out ds acc (fun d' hd' => hs d' (by simp [hd'])) (by omega) ?_
      simpa [List.filterMap_cons, e] using h
end DL

namespace DL
open PySem PySem.Spec L2

/-! ## rows of stones -/
abbrev SRow := List (Int × Int)
def stD (p : Int × Int) : PyData := .tuple [.int p.1, .int p.2]
def rowD (l : SRow) : PyData := .tuple (l.map stD)
def pl (l : SRow) (i : Nat) : Int := (l.getD i (0, 0)).1
def ht (l : SRow) (i : Nat) : Int := (l.getD i (0, 0)).2
theorem atI_row {l : SRow} {i : Int} (k : Nat) (h : i = (k : Nat)) (hk : k < l.length) : atI (l.map stD) i = some (.tuple [.int (pl l k), .int (ht l k)]) := by
  subst h
  refine atI_nat ?_
  rw [List.getElem?_map, List.getElem?_eq_getElem hk]
  unfold pl ht
  rw [List.getD_eq_getElem?_getD, List.getElem?_eq_getElem hk]
  rfl
theorem atI_map {α : Type} {f : α → PyData} {l : List α} {i : Int} (k : Nat) {x : α} (h : i = (k : Nat)) (hx : l[k]? = some x) : atI (l.map f) i = some (f x) := by
  subst h
  refine atI_nat ?_
  rw [List.getElem?_map, hx]
  rfl
theorem atI_end {α : Type} {f : α → PyData} {l : List α} {x : α} (hx : l[l.length - 1]? = some x) : atI (l.map f) (-1) = some (f x) := by
  have h0 : l.length - 1 < l.length := (List.getElem?_eq_some_iff.mp hx).1
  unfold atI ixN
  rw [if_neg (by decide), if_pos (by rw [List.length_map]; omega)]
  show (l.map f)[((-1 : Int) + ((l.map f).length : Nat)).toNat]? = _
  have e : ((-1 : Int) + ((l.map f).length : Nat)).toNat = l.length - 1 := by rw [List.length_map]; omega
  rw [e, List.getElem?_map, hx]
  rfl
/-- places grow, heights are no less than nothing -/
structure Inc (l : SRow) : Prop where
  n0 : 0 < l.length
  n1 : l.length ≤ 1000
  inc : ∀ i j, i < j → j < l.length → pl l i < pl l j
  hp : ∀ i, i < l.length → 0 ≤ ht l i
/-- a push to the right at s fells s .. m -/
structure IsEnd (l : SRow) (s m : Nat) : Prop where
  le : s ≤ m
  lt : m < l.length
  ch : ∀ j, s < j → j ≤ m → ∃ k, s ≤ k ∧ k < j ∧ pl l j ≤ pl l k + ht l k
  st : m + 1 < l.length → ∀ k, s ≤ k → k ≤ m → pl l k + ht l k < pl l (m + 1)
theorem IsEnd.uniq {l : SRow} {s m k : Nat} (h1 : IsEnd l s m) (h2 : IsEnd l s k) : m = k := by
  rcases Nat.lt_trichotomy m k with h | h | h
  · obtain ⟨j, a, b, c⟩ := h2.ch (m + 1) (by have := h1.le; omega) (by omega)
    have := h1.st (by have := h2.lt; omega) j a (by omega)
    omega
  · exact h
  · obtain ⟨j, a, b, c⟩ := h1.ch (k + 1) (by have := h2.le; omega) (by omega)
    have := h2.st (by have := h1.lt; omega) j a (by omega)
    omega
/-- what stands while right_ends seeks the end of s: s + 1 .. m all fall, and none but s can reach m + 1 -/
structure Seek (l : SRow) (s m : Nat) : Prop where
  le : s ≤ m
  lt : m < l.length
  ch : ∀ j, s < j → j ≤ m → ∃ k, s ≤ k ∧ k < j ∧ pl l j ≤ pl l k + ht l k
  st : m + 1 < l.length → ∀ k, s < k → k ≤ m → pl l k + ht l k < pl l (m + 1)
theorem Seek.start {l : SRow} {s : Nat} (h : s < l.length) : Seek l s s := ⟨Nat.le_refl _, h, fun j a b => by omega, fun _ k a b => by omega⟩
theorem Seek.step {l : SRow} (I : Inc l) {s m e : Nat} (h : Seek l s m) (hr : pl l (m + 1) ≤ pl l s + ht l s) (he : IsEnd l (m + 1) e) : Seek l s e := by
  refine ⟨by have := h.le; have := he.le; omega, he.lt, fun j a b => ?_, fun hn k a b => ?_⟩
  · rcases Nat.lt_trichotomy j (m + 1) with q | q | q
    · exact h.ch j a (by omega)
    · exact ⟨s, Nat.le_refl _, a, by rw [q]; exact hr⟩
    · obtain ⟨k, x, y, z⟩ := he.ch j q b
      exact ⟨k, by have := h.le; omega, y, z⟩
  · rcases Nat.lt_or_ge m k with q | q
    · exact he.st hn k (by omega) b
    · have h1 := h.st (by have := he.le; omega) k a q
      have h2 : pl l (m + 1) < pl l (e + 1) := I.inc _ _ (by have := he.le; omega) hn
      omega
theorem Seek.done {l : SRow} {s m : Nat} (h : Seek l s m) (hs : m + 1 < l.length → pl l s + ht l s < pl l (m + 1)) : IsEnd l s m :=
  ⟨h.le, h.lt, h.ch, fun hn k a b => by
    rcases Nat.lt_or_ge s k with q | q
    · exact h.st hn k q b
    · have : k = s := by omega
      rw [this]; exact hs hn⟩
/-- the ends of all pushes to the right -/
structure AllEnds (l : SRow) (fs : List Nat) : Prop where
  len : fs.length = l.length
  at_ : ∀ s m, fs[s]? = some m → IsEnd l s m
def natD (n : Nat) : PyData := .int (n : Nat)
theorem seek_end {l : SRow} (I : Inc l) {s : Nat} (ih : ∀ t, s < t → t < l.length → ∃ e, IsEnd l t e) : ∀ (d m : Nat), l.length - m ≤ d → Seek l s m → ∃ e, IsEnd l s e
  | 0, m, hd, h => by have := h.lt; omega
  | d + 1, m, hd, h => by
    have hm := h.lt
    have hle := h.le
    by_cases c : m + 1 < l.length ∧ pl l (m + 1) ≤ pl l s + ht l s
    · obtain ⟨e, he⟩ := ih (m + 1) (by omega) c.1
      exact seek_end I ih d e (by have := he.le; omega) (h.step I c.2 he)
    · exact ⟨m, h.done fun hn => by
        rcases Int.lt_or_le (pl l s + ht l s) (pl l (m + 1)) with q | q
        · exact q
        · exact absurd ⟨hn, q⟩ c⟩
theorem end_ex {l : SRow} (I : Inc l) : ∀ (d s : Nat), l.length - s ≤ d → s < l.length → ∃ e, IsEnd l s e
  | 0, s, hd, h => by omega
  | d + 1, s, hd, h => seek_end I (fun t h1 h2 => end_ex I d t (by omega) h2) _ s (Nat.le_refl _) (Seek.start h)
open Classical in
noncomputable def endOf (l : SRow) (s : Nat) : Nat := if h : ∃ e, IsEnd l s e then h.choose else 0
theorem endOf_ok {l : SRow} (I : Inc l) {s : Nat} (h : s < l.length) : IsEnd l s (endOf l s) := by
  have hx := end_ex I _ s (Nat.le_refl _) h
  unfold endOf
  rw [dif_pos hx]
  exact hx.choose_spec
noncomputable def ends (l : SRow) : List Nat := (List.range l.length).map (endOf l)
theorem ends_len {l : SRow} : (ends l).length = l.length := by unfold ends; simp
theorem ends_get {l : SRow} {s : Nat} (h : s < l.length) : (ends l)[s]? = some (endOf l s) := by
  unfold ends
  rw [List.getElem?_map, List.getElem?_range h]
  rfl
theorem AllEnds.eq {l : SRow} {fs : List Nat} (I : Inc l) (h : AllEnds l fs) : fs = ends l := by
  apply List.ext_getElem?
  intro s
  rcases Nat.lt_or_ge s l.length with q | q
  · have e := List.getElem?_eq_getElem (l := fs) (i := s) (by rw [h.len]; exact q)
    rw [ends_get q, e, (h.at_ s _ e).uniq (endOf_ok I q)]
  · rw [List.getElem?_eq_none (by rw [h.len]; exact q), List.getElem?_eq_none (by rw [ends_len]; exact q)]
/-! the row seen from the other end -/
def mirror (l : SRow) : SRow := l.reverse.map fun p => (pl l 0 + pl l (l.length - 1) - p.1, p.2)
theorem mirror_len (l : SRow) : (mirror l).length = l.length := by unfold mirror; simp
theorem mirror_get {l : SRow} {i : Nat} (h : i < l.length) : (mirror l)[i]? = some (pl l 0 + pl l (l.length - 1) - pl l (l.length - 1 - i), ht l (l.length - 1 - i)) := by
  unfold mirror
  have h2 : l.length - 1 - i < l.length := by omega
  rw [List.getElem?_map, List.getElem?_reverse h, List.getElem?_eq_getElem h2]
  unfold pl ht
  rw [List.getD_eq_getElem?_getD (i := l.length - 1 - i), List.getElem?_eq_getElem h2]
  rfl
theorem mirror_pl {l : SRow} {i : Nat} (h : i < l.length) : pl (mirror l) i = pl l 0 + pl l (l.length - 1) - pl l (l.length - 1 - i) := by
  show ((mirror l).getD i (0, 0)).1 = _
  rw [List.getD_eq_getElem?_getD, mirror_get h]
  rfl
theorem mirror_ht {l : SRow} {i : Nat} (h : i < l.length) : ht (mirror l) i = ht l (l.length - 1 - i) := by
  show ((mirror l).getD i (0, 0)).2 = _
  rw [List.getD_eq_getElem?_getD, mirror_get h]
  rfl
theorem Inc.mirror {l : SRow} (I : Inc l) : Inc (mirror l) := by
  have hn0 := I.n0
  refine ⟨by rw [mirror_len]; exact I.n0, by rw [mirror_len]; exact I.n1, fun i j hij hj => ?_, fun i hi => ?_⟩
  · rw [mirror_len] at hj
    rw [mirror_pl (by omega), mirror_pl hj]
    have := I.inc (l.length - 1 - j) (l.length - 1 - i) (by omega) (by omega)
    omega
  · rw [mirror_len] at hi
    rw [mirror_ht hi]
    exact I.hp _ (by omega)
/-- a push to the left at s fells m .. s -/
structure IsStart (l : SRow) (s m : Nat) : Prop where
  le : m ≤ s
  lt : s < l.length
  ch : ∀ j, m ≤ j → j < s → ∃ k, j < k ∧ k ≤ s ∧ pl l k - ht l k ≤ pl l j
  st : 0 < m → ∀ k, m ≤ k → k ≤ s → pl l (m - 1) < pl l k - ht l k
theorem IsStart.of {l : SRow} {s e : Nat} (hs : s < l.length) (h : IsEnd (mirror l) (l.length - 1 - s) e) : IsStart l s (l.length - 1 - e) := by
  have h1 := h.le
  have h2 := h.lt
  rw [mirror_len] at h2
  refine ⟨by omega, hs, fun j a b => ?_, fun hm k a b => ?_⟩
  · obtain ⟨k, x, y, z⟩ := h.ch (l.length - 1 - j) (by omega) (by omega)
    rw [mirror_pl (by omega), mirror_pl (by omega), mirror_ht (by omega)] at z
    refine ⟨l.length - 1 - k, by omega, by omega, ?_⟩
    have e1 : l.length - 1 - (l.length - 1 - j) = j := by omega
    rw [e1] at z
    omega
  · have := h.st (by rw [mirror_len]; omega) (l.length - 1 - k) (by omega) (by omega)
    rw [mirror_pl (by omega), mirror_pl (by omega), mirror_ht (by omega)] at this
    have e1 : l.length - 1 - (l.length - 1 - k) = k := by omega
    have e2 : l.length - 1 - (e + 1) = l.length - 1 - e - 1 := by omega
    rw [e1, e2] at this
    omega
noncomputable def startOf (l : SRow) (s : Nat) : Nat := l.length - 1 - endOf (mirror l) (l.length - 1 - s)
theorem startOf_ok {l : SRow} (I : Inc l) {s : Nat} (h : s < l.length) : IsStart l s (startOf l s) := by
  have hn := I.n0
  exact IsStart.of h (endOf_ok I.mirror (by rw [mirror_len]; omega))
/-! what a search finds -/
def Hit (l : SRow) (rt : Bool) (k j : Nat) : Prop := if rt then pl l k < pl l j ∧ pl l j ≤ pl l k + ht l k else pl l k - ht l k ≤ pl l j ∧ pl l j < pl l k
/-- lo .. hi is what falls of a push at s -/
def Falls (l : SRow) (rt : Bool) (s lo hi : Nat) : Prop := if rt then lo = s ∧ IsEnd l s hi else hi = s ∧ IsStart l s lo
theorem Inc.lt_of {l : SRow} (I : Inc l) {i j : Nat} (hi : i < l.length) (hj : j < l.length) (h : pl l i < pl l j) : i < j := by
  rcases Nat.lt_trichotomy i j with q | q | q
  · exact q
  · subst q; omega
  · have := I.inc _ _ q hi; omega
theorem Falls.bd {l : SRow} {rt : Bool} {s lo hi : Nat} (h : Falls l rt s lo hi) : lo ≤ s ∧ s ≤ hi ∧ hi < l.length := by
  unfold Falls at h
  cases rt with
  | true => rw [if_pos rfl] at h; obtain ⟨rfl, h⟩ := h; exact ⟨Nat.le_refl _, h.le, h.lt⟩
  | false => rw [if_neg (by decide)] at h; obtain ⟨rfl, h⟩ := h; exact ⟨h.le, Nat.le_refl _, h.lt⟩
theorem Falls.hit {l : SRow} (I : Inc l) {rt : Bool} {s lo hi k j : Nat} (h : Falls l rt s lo hi) (h1 : lo ≤ k) (h2 : k ≤ hi) (hj : j < l.length) (hh : Hit l rt k j) : lo ≤ j ∧ j ≤ hi := by
  have hb := h.bd
  unfold Falls at h
  unfold Hit at hh
  cases rt with
  | true =>
    rw [if_pos rfl] at h hh
    obtain ⟨rfl, h⟩ := h
    have hkj := I.lt_of (by omega) hj hh.1
    refine ⟨by omega, ?_⟩
    rcases Nat.lt_or_ge hi j with q | q
    · have h3 := h.st (by omega) k h1 h2
      rcases Nat.lt_or_ge (hi + 1) j with q' | q'
      · have := I.inc _ _ q' hj; omega
      · have : j = hi + 1 := by omega
        subst this; omega
    · exact q
  | false =>
    rw [if_neg (by decide)] at h hh
    obtain ⟨rfl, h⟩ := h
    have hkj := I.lt_of hj (by omega) hh.2
    refine ⟨?_, by omega⟩
    rcases Nat.lt_or_ge j lo with q | q
    · have h3 := h.st (by omega) k h1 h2
      rcases Nat.lt_or_ge j (lo - 1) with q' | q'
      · have := I.inc _ _ q' (by omega); omega
      · have : j = lo - 1 := by omega
        subst this; omega
    · exact q
theorem Falls.all {l : SRow} (I : Inc l) {rt : Bool} {s lo hi : Nat} (h : Falls l rt s lo hi) (P : Nat → Prop) (hs : P s) (hc : ∀ k, lo ≤ k → k ≤ hi → P k → ∀ j, j < l.length → Hit l rt k j → P j) : ∀ j, lo ≤ j → j ≤ hi → P j := by
  have hb := h.bd
  unfold Falls at h
  cases rt with
  | true =>
    rw [if_pos rfl] at h
    obtain ⟨rfl, h⟩ := h
    intro j
    induction j using Nat.strongRecOn with
    | _ j ih =>
      intro h1 h2
      rcases Nat.lt_or_ge lo j with q | q
      · obtain ⟨k, a, b, c⟩ := h.ch j q h2
        refine hc k a (by omega) (ih k b a (by omega)) j (by omega) ?_
        unfold Hit
        rw [if_pos rfl]
        exact ⟨I.inc _ _ b (by omega), c⟩
      · have : j = lo := by omega
        subst this; exact hs
  | false =>
    rw [if_neg (by decide)] at h
    obtain ⟨rfl, h⟩ := h
    have key : ∀ d j, hi - j ≤ d → lo ≤ j → j ≤ hi → P j := by
      intro d
      induction d with
      | zero => intro j h0 h1 h2; have : j = hi := by omega
                subst this; exact hs
      | succ d ih =>
        intro j h0 h1 h2
        rcases Nat.lt_or_ge j hi with q | q
        · obtain ⟨k, a, b, c⟩ := h.ch j h1 q
          refine hc k (by omega) b (ih k (by omega) (by omega) b) j (by omega) ?_
          unfold Hit
          rw [if_neg (by decide)]
          exact ⟨c, I.inc _ _ a (by omega)⟩
        · have : j = hi := by omega
          subst this; exact hs
    exact fun j h1 h2 => key _ j (Nat.le_refl _) h1 h2
/-- a list without doubles that holds lo .. hi, put in order -/
theorem sorted_range {fs : List Nat} {lo n : Nat} (hn : fs.Nodup) (hm : ∀ j, j ∈ fs ↔ lo ≤ j ∧ j < lo + n) : isort (fs.map fun k : Nat => (k : Int)) = (List.range n).map fun i => (lo : Int) + (i : Nat) := by
  refine (isort_of ?_ ?_).symm
  · have e : ((List.range n).map fun i => (lo : Int) + (i : Nat)) = ((List.range n).map fun i => lo + i).map fun k : Nat => (k : Int) := by
      rw [List.map_map]
      apply List.map_congr_left
      intro a _
      simp
    rw [e]
    refine List.Perm.map _ ?_
    refine (List.perm_ext_iff_of_nodup ?_ hn).mpr fun a => ?_
    · refine List.Pairwise.map _ (fun a b h => ?_) List.nodup_range
      omega
    · rw [hm, List.mem_map]
      constructor
      · rintro ⟨i, hi, rfl⟩
        rw [List.mem_range] at hi
        omega
      · intro h
        exact ⟨a - lo, by rw [List.mem_range]; omega, by omega⟩
  · refine List.Pairwise.map _ (fun a b h => ?_) (List.pairwise_lt_range (n := n))
    omega
end DL

/-! ## errors: made, raised, caught, asked -/
namespace PySem.W
open PySem PySem.Spec PySem.Calls PyProof.Rows
/-- what an error's class must say so that its instances (with a dict of their own) are asked rightly -/
structure EClass (K : Frag) (D : Addr) : Prop where
  e1 : findIn K (.ref D) "__getattribute__" = some (some (.builtin "BaseException.__getattribute__"))
  e2 : findIn K (.ref D) "__getattr__" = some none
  e3 : subIn K (.ref D) (.type "BaseException") = some true
  e4 : hasDictIn K D = true
  e5 : findIn K (.ref D) "__class__" = some (some (.builtin "object.__class__"))
  e6 : specialIn K (.builtin "object.__class__") "__get__" = some (some (.builtin "getset_descriptor.__get__"))
  e7 : takesIn K (.builtin "object.__class__") = some true
  e8 : mroIn K D (.type "object") = some true
theorem EClass.isc {K : Frag} {D : Addr} (T : EClass K D) : (clsIn K D).isSome = true := by
  obtain ⟨cd, hc, _⟩ := any_some T.e4
  rw [hc]; rfl
theorem EClass.found {K : Frag} {D : Addr} (T : EClass K D) (od : Option Obj) : findObj K D od "__class__" = some (.bind (.builtin "getset_descriptor.__get__") (.builtin "object.__class__")) := by
  obtain ⟨cd, q⟩ := Option.isSome_iff_exists.mp T.isc
  unfold findObj
  rw [q, Option.bind_some, T.e5, Option.bind_some]
  simp [T.e6, T.e7]
theorem EClass.ask {K : Frag} {D x : Addr} {o : Obj} {od : Option Obj} {prog : Program} {w : World} {A : Around} {E : Value → Shared → Prop} {s : Shared} {Q : Option Value → Shared → Prop} (T : EClass K D) (X : K.In s.heap) (I : InstAt s.heap x o D od)
    (h : Q (some (.ref D)) { s with toks := s.toks + 1 }) : wpAny (model prog w) A (getAttr? (.ref x) "__class__") Q E s := by
  have fnd := T.found od
  obtain ⟨hp, gg, dr, tk, os⟩ := s
  have k0 := I.type (M := model prog w)
  have k1 := looks_findIn (M := model prog w) X T.e1
  have k2 := looks_findIn (M := model prog w) X T.e2
  have k3 := looks_find (M := model prog w) X I fnd
  have sb : Looks (model prog w) hp (isInstance (.ref x) (.type "BaseException")) true := k0.andThen (looks_subIn X T.e3)
  have n1 : (Value.builtin "BaseException.__getattribute__" == Value.builtin "object.__getattribute__") = false := by decide +kernel
  have n2 : (onTheHeap (Value.ref D) && Value.builtin "BaseException.__getattribute__" == Value.builtin "object.__getattribute__") = false := by rw [n1]; rfl
  have n3 : (false && onTheHeap (Value.builtin "BaseException.__getattribute__")) = false := rfl
  unfold getAttr? getAttrBy? getAttrBy
  refine wpAny_bind (wpAny_mkText (wpAny_bind (wpAny_attempt (wpAny_holding (wpAny_bind (k0.at (wpAny_bind (k1.at ?_))))))))
  show wpAny _ _ (if (onTheHeap (Value.ref D) && Value.builtin "BaseException.__getattribute__" == Value.builtin "object.__getattribute__") = true then _ else _) _ _ _
  rw [n2]; rw [if_neg Bool.false_ne_true]
  unfold getAttrByItsOwn hookBefore
  apply wpAny_bind
  rw [if_pos (show (onTheHeap (Value.ref D) = true) from rfl)]
  refine k2.at (wpAny_bind (wpAny_attempt (wpAny_holding ?_)))
  unfold callGetattribute
  rw [n3]; rw [if_neg Bool.false_ne_true]
  unfold boundAndCalled
  rw [PySem.F.excAttr_ValueError.ga.bind (.ref x)]
  apply wpAny_bind; apply wpAny_pure
  show wpAny _ _ (call (.builtin "BaseException.__getattribute__") [.ref x, .str "__class__" tk]) _ _ _
  refine wpAny_call (codeAny_call_builtin PySem.F.excAttr_ValueError.ga.plain PySem.F.entry_bexc_ga ?_)
  refine @check_slot (model prog w) _ _ ⟨hp, gg, dr, tk + 1, os⟩ "BaseException.__getattribute__" "BaseException" "__getattribute__" (.ref x) [.str "__class__" tk] [] _ (by decide +kernel) (by decide +kernel) sb (PySem.F.args_bexc_ga (.ref x) (.str "__class__" tk)) ?_
  unfold Builtin.«object.__getattribute__»
  refine wpAny_bind (wpAny_of_eq (a := ((Value.ref x : Value), [Value.str "__class__" tk])) (by first | rfl | (simp only [slotArgs]; rfl)) ?_)
  refine wpAny_bind (wpAny_pure (wpAny_bind (k0.at (wpAny_bind (k3.at ?_)))))
  show wpAny _ _ (holding [Value.builtin "object.__class__"] (call (.builtin "getset_descriptor.__get__") [.builtin "object.__class__", .ref x, .ref D]) >>= ret) _ _ _
  refine wpAny_bind (wpAny_holding (wpAny_call (class_get (s := ⟨hp, gg, dr, tk + 1, os⟩) (ox := o) (od := od) X I T.e8 ?_)))
  apply wpAny_pure
  show wpAny _ _ (handedOut (.ref D)) _ _ _
  rw [handedOut_of (v := Value.ref D) rfl]
  first
    | exact wpAny_pure (wpAny_pure h)
    | exact wpAny_pure h
    | exact wpAny_pure (wpAny_bind (wpAny_pure (wpAny_pure h)))
theorem EClass.kit {K : Frag} {D x : Addr} {o : Obj} {od : Option Obj} (T : EClass K D) : KitX K (.ref x) (.ref D) (fun h => InstAt h x o D od) := by
  have q := T.isc
  unfold clsIn at q
  refine ⟨fun _ _ _ I => I.type, fun _ _ X _ => ?_, fun h tp dd its n sl X e => ?_, fun X I k => T.ask X I k⟩
  · split at q
    · rename_i c' d' cd' sl' ho
      intro A' Q' E' s' k p
      unfold isType loadHead
      exact wpAny_bind (wpAny_loadPart (k _ _ (X _ _ ho)) (wpAny_pure p))
    · cases q
  · refine Bool.eq_false_iff.mpr fun p => ?_
    have e' : D = tp := Value.ref.inj (beq_iff_eq.mp p)
    subst e'
    split at q
    · rename_i c' d' cd' sl' ho
      have z := (X _ _ ho).symm.trans e
      cases z
    · cases q
end PySem.W
namespace DL
open PySem PySem.Spec L2 PySem.W
/-! ### what stands of the errors' classes -/
def clsA (mg : Str → Option Value) (x : Str) : Addr := match mg x with
  | some (.ref C) => C
  | _ => 0
theorem clsA_of {mg : Str → Option Value} {x : Str} {C : Addr} (h : mg x = some (.ref C)) : clsA mg x = C := by
  unfold clsA
  rw [h]
def AllS (p : Str → Prop) : List Str → Prop
  | [] => True
  | x :: xs => p x ∧ AllS p xs
theorem AllS.get {p : Str → Prop} : ∀ {l : List Str} {x : Str}, AllS p l → x ∈ l → p x
  | [], _, _, h => by cases h
  | y :: ys, x, h, hm => by
    rcases List.mem_cons.mp hm with rfl | q
    · exact h.1
    · exact AllS.get h.2 q
/-- L: the classes that are raised; M: those that are asked for; fs: the fields' names -/
structure XTab (K : Frag) (mg : Str → Option Value) (L M fs : List Str) (sub : Str → Str → Bool) : Prop where
  ml : AllS (fun x => mg x = some (.ref (clsA mg x))) L
  mm : AllS (fun y => mg y = some (.ref (clsA mg y))) M
  ec : AllS (fun x => EClass K (clsA mg x)) L
  no : AllS (fun x => AllS (fun f => findIn K (.ref (clsA mg x)) f = some none) fs) L
  kt : AllS (fun x => AllS (fun y => kitOne K (.ref (clsA mg x)) (.ref (clsA mg y)) = some (sub x y)) M) L
  kv : AllS (fun x => kitOne K (.ref (clsA mg x)) (.type "ValueError") = some true) L
theorem _root_.PySem.W.EClass.xf {K : Frag} {C : Addr} (T : EClass K C) : XfC K C := ⟨T.e1, T.e2, T.e3, T.e4⟩
theorem kit_ref {K : Frag} {c e : Addr} {b : Bool} (h1 : subIn K (.ref c) (.ref c) = some true) (h2 : hasDictIn K e = true) (h3 : typeIn K (.ref e) = some (.type "type")) (h4 : subIn K (.ref c) (.ref e) = some b) : kitOne K (.ref c) (.ref e) = some b := by
  obtain ⟨cd, hc, _⟩ := any_some h2
  unfold kitOne
  by_cases q : c = e
  · subst q
    rw [h1] at h4
    cases h4
    rw [if_pos (by simp)]
  · have n : ((Value.ref c) == (.ref e)) = false := by simpa using q
    rw [n, if_neg Bool.false_ne_true]
    unfold kitCls
    have e2 : ((clsIn K e).isSome && typeIn K (.ref e) == some (.type "type")) = true := by rw [hc, h3] <;> rfl
    simp only
    rw [if_pos e2]
    exact h4
theorem kit_ve {K : Frag} {c : Addr} (h : subIn K (.ref c) (.type "ValueError") = some true) : kitOne K (.ref c) (.type "ValueError") = some true := by
  unfold kitOne
  have n : ((Value.ref c) == (.type "ValueError")) = false := rfl
  rw [n, if_neg Bool.false_ne_true]
  show (if kitMeta "ValueError" = true then subIn K (.ref c) (.type "ValueError") else none) = some true
  rw [if_pos (by decide +kernel)]
  exact h
/-! ### isinstance of what the suite holds -/
theorem inst_of {X : Cx} {a C : Addr} {oe : Obj} {d : Option Addr} {pn pins : List (Addr × Obj)} {σ : L2.St} {H : Hp} {s : Shared} (I : Inv (X.suite a ((a, oe) :: pn)) pins σ H s) (hz : Zc (.ref C) d oe) (hf : ∃ vs, oe.data = .fields vs) (hd : ∀ dd, d = some dd → ∃ fs, H dd = some (.xd fs)) :
    ∃ od, InstAt s.heap a oe C od := by
  obtain ⟨ha, _⟩ := I.pin (a, oe) (List.mem_append_left _ List.mem_cons_self)
  obtain ⟨vs, hv⟩ := hf
  cases d with
  | none =>
    refine ⟨none, ha, hz.1, by unfold PySem.W.notCls; rw [hv] <;> rfl, ?_⟩
    rw [hz.2]
    trivial
  | some dd =>
    obtain ⟨fs, hfs⟩ := hd dd rfl
    have hx : ObjOk X.prog X.w H s.heap dd (.xd fs) := I.hok dd _ hfs
    obtain ⟨mA, hns, hr⟩ := hx
    obtain ⟨od, ho, hl⟩ := lookIn_ns hns
    exact ⟨some od, ha, hz.1, by unfold PySem.W.notCls; rw [hv] <;> rfl, by rw [hz.2]; exact ho⟩
def rIsX (K : Frag) (a C : Addr) (d : Option Addr) : List V → Hp → VK → Prop := fun xs H Q => ∃ (c : V) (cv : Value) (b : Bool), EClass K C ∧ xs = [.ref a, c] ∧ ClsV c cv ∧ kitOne K (.ref C) cv = some b ∧ (∀ dd, d = some dd → ∃ fs, H dd = some (.xd fs)) ∧ Q (.bl b) H
theorem call_isX {X : Cx} {a C : Addr} {oe : Obj} {d : Option Addr} {pn : List (Addr × Obj)} (hz : Zc (.ref C) d oe) (hf : ∃ vs, oe.data = .fields vs) : CallR (X.suite a ((a, oe) :: pn)) (.builtin "isinstance") (rIsX X.K a C d) := by
  intro pins s σ H xs us Q I r h
  obtain ⟨c, cv, b, T, rfl, k, e, hd, q⟩ := h
  obtain ⟨u1, u2, rfl, r1, r2⟩ := vals2 r
  have e2 := k.eq r2
  subst e2
  cases r1
  obtain ⟨od, J⟩ := inst_of I hz hf hd
  exact PySem.W.kia_one T.kit I.kIn J e (fun z => nomatch z) fun tk => ⟨.bl b, H, I.tok tk, rfl, q⟩
def rIsXT (K : Frag) (a C : Addr) (d : Option Addr) : List V → Hp → VK → Prop := fun xs H Q => ∃ (tp : Addr) (cs : List V) (us : List Value) (b : Bool), EClass K C ∧ xs = [.ref a, .ref tp] ∧ H tp = some (.tup cs) ∧ Paired ClsV cs us ∧ kitAny K (.ref C) us = some b ∧ (∀ dd, d = some dd → ∃ fs, H dd = some (.xd fs)) ∧ Q (.bl b) H
theorem call_isXT {X : Cx} {a C : Addr} {oe : Obj} {d : Option Addr} {pn : List (Addr × Obj)} (hz : Zc (.ref C) d oe) (hf : ∃ vs, oe.data = .fields vs) : CallR (X.suite a ((a, oe) :: pn)) (.builtin "isinstance") (rIsXT X.K a C d) := by
  intro pins s σ H xs us Q I r h
  obtain ⟨tp, cs, ws, b, T, rfl, hT, k, e, hd, q⟩ := h
  obtain ⟨u1, u2, rfl, r1, r2⟩ := vals2 r
  cases (show u2 = Value.ref tp from r2)
  cases r1
  obtain ⟨od, J⟩ := inst_of I hz hf hd
  have hTo : ObjOk X.prog X.w H s.heap tp (.tup cs) := I.hok tp _ hT
  obtain ⟨_, its, rv, o, h1, h2, n, h3⟩ := hTo
  have e3 := ClsV.all k rv
  subst e3
  obtain ⟨oc, od', dt, sl⟩ := o
  simp only at h2 h3
  subst h2 h3
  exact PySem.W.kia_tup T.kit I.kIn J h1 e (fun z => nomatch z) fun tk => ⟨.bl b, H, I.tok tk, rfl, q⟩
section
variable {u u1 u2 : Nat} {X : Cx} {W : WC} {a C : Addr} {oe : Obj} {d : Option Addr} {pn : List (Addr × Obj)} {e : Expr} {es : List Expr} {me : ME} {mas : MA} {pos p p2 tpos : Pos} {k : Nat}
  {K' : Frag} {mg' : Str → Option Value} {L M fs Y : List Str} {sub : Str → Str → Bool}
/-- the error that the suite holds -/
def oHeld (mg : Str → Option Value) (L : List Str) (a C : Addr) (d : Option Addr) (x : DV) (R : DExc → Prop) : Prop := match x with
  | .exc a' C' d' er => a' = a ∧ C' = C ∧ d' = d ∧ C = clsA mg er.cls ∧ er.cls ∈ L ∧ R er
  | _ => False
theorem held_of {G : Gm} {F H : Hp} {v : V} {x : DV} {mg : Str → Option Value} {R : DExc → Prop} (h : VOk G F H v x) (hf : Same F H) (m : oHeld mg L a C d x R) :
    v = .ref a ∧ (∀ dd, d = some dd → ∃ fs, H dd = some (.xd fs)) ∧ ∃ er, C = clsA mg er.cls ∧ er.cls ∈ L ∧ R er ∧ ∀ f y, er.arg = some (f, y) → ∃ dd w, d = some dd ∧ H dd = some (.xd [(f, w)]) ∧ At G.K F w y := by
  cases x with
  | exc a' C' d' er =>
    obtain ⟨cn, arg⟩ := er
    obtain ⟨e1, e2, e3, h1, h2, h3⟩ := m
    subst e1
    subst e2
    subst e3
    obtain ⟨e4, h⟩ := h
    subst e4
    cases arg with
    | none =>
      have h : d' = none := h
      subst h
      refine ⟨rfl, fun dd e => ?_, ⟨cn, none⟩, h1, h2, h3, fun f y e => ?_⟩
      · cases e
      · cases e
    | some q =>
      obtain ⟨f, y⟩ := q
      obtain ⟨dd, w, e5, e2, e3⟩ := h
      subst e5
      refine ⟨rfl, fun d2 e => ?_, ⟨cn, some (f, y)⟩, h1, h2, h3, fun f' y' e => ?_⟩
      · cases e
        exact ⟨_, hf _ _ e2⟩
      · cases e
        exact ⟨dd, w, rfl, hf _ _ e2, e3⟩
  | _ => exact m.elim
/-- isinstance(error, y) -/
def mIsX (mg : Str → Option Value) (L : List Str) (sub : Str → Str → Bool) (y : Str) (a C : Addr) (d : Option Addr) (me : ME) : ME := fun ex δ R => me ex δ fun x => oHeld mg L a C d x fun er => R (.d (.bool (sub er.cls y)))
theorem de_isX (T : XTab K' mg' L M fs sub) {y : Str} (hz : Zc (.ref C) d oe) (hf : ∃ vs, oe.data = .fields vs) (hy : y ∈ M) (hgy : Gl (X.suite a ((a, oe) :: pn)) y) (hg : Gl (X.suite a ((a, oe) :: pn)) "isinstance") (hm : (X.suite a ((a, oe) :: pn)).mg "isinstance" = none)
    (he : DE (X.suite a ((a, oe) :: pn)) W e me u) (hK : X.K = K' := by rfl) (hmg : X.mg = mg' := by rfl) (hyd : (y == ("__debug__" : Str)) = false := by decide)
    (hs : starEach [e, .Name y p2] X.env = (false, eval e X.env) :: starEach [.Name y p2] X.env := by rfl) (hpl : (backTo pos (starEach [.Name y p2] X.env)).any (·.1) = false := by rfl) (hs2 : starEach [.Name y p2] X.env = (false, eval (.Name y p2) X.env) :: starEach [] X.env := by rfl) :
    DE (X.suite a ((a, oe) :: pn)) W (.Call (.Name "isinstance" p) [e, .Name y p2] [] pos) (mIsX mg' L sub y a C d me) u := by
  subst hK
  subst hmg
  refine ⟨PE.imp (pe_callB (call_isX hz hf) hg hm (by decide +kernel) (pa_cons he.pe (pa_cons (pe_glob (v := .ref (clsA X.mg y)) hgy (T.mm.get hy) rfl hyd) pa_nil hs2) hs) (by decide) (by decide) hs hpl) ?_⟩
  rintro σ H Q ⟨ex, G, F, δ, τ, ts, τ1, ts1, R, n, m, kk⟩
  refine ⟨ex, G, F, δ, τ, ts, τ1, ts1, _, n, m, fun x hx v F1 H1 g1 => ?_⟩
  obtain ⟨rfl, h1, er, h2, h3, h4, _⟩ := held_of g1.top g1.fh hx
  exact ⟨.ref (clsA X.mg y), _, sub er.cls y, by rw [h2]; exact T.ec.get h3, rfl, .own _, by rw [h2]; exact (T.kt.get h3).get hy, h1, kk _ h4 _ F1 H1 (g1.pop.pushD (.bl _))⟩
/-- isinstance(error, ValueError) -/
def mIsV (mg : Str → Option Value) (L : List Str) (a C : Addr) (d : Option Addr) (me : ME) : ME := fun ex δ R => me ex δ fun x => oHeld mg L a C d x fun er => R (.d (.bool true))
theorem de_isV (T : XTab K' mg' L M fs sub) (hz : Zc (.ref C) d oe) (hf : ∃ vs, oe.data = .fields vs) (hgy : Gl (X.suite a ((a, oe) :: pn)) "ValueError") (hmy : (X.suite a ((a, oe) :: pn)).mg "ValueError" = none) (hg : Gl (X.suite a ((a, oe) :: pn)) "isinstance") (hm : (X.suite a ((a, oe) :: pn)).mg "isinstance" = none)
    (he : DE (X.suite a ((a, oe) :: pn)) W e me u) (hK : X.K = K' := by rfl) (hmg : X.mg = mg' := by rfl)
    (hs : starEach [e, .Name "ValueError" p2] X.env = (false, eval e X.env) :: starEach [.Name "ValueError" p2] X.env := by rfl) (hpl : (backTo pos (starEach [.Name "ValueError" p2] X.env)).any (·.1) = false := by rfl) (hs2 : starEach [.Name "ValueError" p2] X.env = (false, eval (.Name "ValueError" p2) X.env) :: starEach [] X.env := by rfl) :
    DE (X.suite a ((a, oe) :: pn)) W (.Call (.Name "isinstance" p) [e, .Name "ValueError" p2] [] pos) (mIsV mg' L a C d me) u := by
  subst hK
  subst hmg
  refine ⟨PE.imp (pe_callB (call_isX hz hf) hg hm (by decide +kernel) (pa_cons he.pe (pa_cons (pe_bltn (v := .ty "ValueError") hgy hmy (by decide +kernel) rfl) pa_nil hs2) hs) (by decide) (by decide) hs hpl) ?_⟩
  rintro σ H Q ⟨ex, G, F, δ, τ, ts, τ1, ts1, R, n, m, kk⟩
  refine ⟨ex, G, F, δ, τ, ts, τ1, ts1, _, n, m, fun x hx v F1 H1 g1 => ?_⟩
  obtain ⟨rfl, h1, er, h2, h3, h4, _⟩ := held_of g1.top g1.fh hx
  exact ⟨.ty "ValueError", _, true, by rw [h2]; exact T.ec.get h3, rfl, .ty _, by rw [h2]; exact T.kv.get h3, h1, kk _ h4 _ F1 H1 (g1.pop.pushD (.bl _))⟩
/-- names of classes as arguments -/
structure DCl (X : Cx) (es : List Expr) (ys : List Str) : Prop where
  pa : PA X es fun _ H Q => Q (ys.map fun y => V.ref (clsA X.mg y)) H
theorem dcl_nil : DCl X [] [] := ⟨pa_nil⟩
theorem dcl_cons {y : Str} {ys : List Str} (hgy : Gl X y) (hmy : X.mg y = some (.ref (clsA X.mg y))) (h : DCl X es ys) (hyd : (y == ("__debug__" : Str)) = false := by decide)
    (hs : starEach (.Name y p :: es) X.env = (false, eval (.Name y p) X.env) :: starEach es X.env := by rfl) : DCl X (.Name y p :: es) (y :: ys) := ⟨pa_cons (pe_glob (v := .ref (clsA X.mg y)) hgy hmy rfl hyd) h.pa hs⟩
theorem paired_cls {mg : Str → Option Value} : ∀ ys : List Str, Paired ClsV (ys.map fun y => V.ref (clsA mg y)) (ys.map fun y => Value.ref (clsA mg y))
  | [] => .nil
  | y :: ys => .cons (.own _) (paired_cls ys)
theorem kitAny_all {K : Frag} {t : Value} {mg : Str → Option Value} {b : Str → Bool} : ∀ {ys : List Str}, (∀ y ∈ ys, kitOne K t (.ref (clsA mg y)) = some (b y)) → kitAny K t (ys.map fun y => Value.ref (clsA mg y)) = some (ys.any b)
  | [], _ => rfl
  | y :: ys, h => by
    have h1 := h y (by simp)
    have h2 := kitAny_all (ys := ys) fun z hz => h z (by simp [hz])
    rw [List.map_cons, List.any_cons]
    refine kitAny_cons h1 (fun e => ?_) fun e => ?_
    · rw [e, Bool.false_or]; exact h2
    · rw [e, Bool.true_or]
/-- isinstance(error, (y1, y2, ..)) -/
def mIsXT (mg : Str → Option Value) (L : List Str) (sub : Str → Str → Bool) (ys : List Str) (a C : Addr) (d : Option Addr) (me : ME) : ME := fun ex δ R => me ex δ fun x => oHeld mg L a C d x fun er => R (.d (.bool (ys.any fun y => sub er.cls y)))
theorem de_isXT {kx : _} (T : XTab K' mg' L M fs sub) {ys : List Str} (hz : Zc (.ref C) d oe) (hf : ∃ vs, oe.data = .fields vs) (hy : ∀ y ∈ ys, y ∈ M) (hl : ys.length ≤ 100) (hg : Gl (X.suite a ((a, oe) :: pn)) "isinstance") (hm : (X.suite a ((a, oe) :: pn)).mg "isinstance" = none)
    (he : DE (X.suite a ((a, oe) :: pn)) W e me u) (hc : DCl (X.suite a ((a, oe) :: pn)) es ys) (hK : X.K = K' := by rfl) (hmg : X.mg = mg' := by rfl)
    (hs : starEach [e, .Tuple es kx tpos] X.env = (false, eval e X.env) :: starEach [.Tuple es kx tpos] X.env := by rfl) (hpl : (backTo pos (starEach [.Tuple es kx tpos] X.env)).any (·.1) = false := by rfl) (hs2 : starEach [.Tuple es kx tpos] X.env = (false, eval (.Tuple es kx tpos) X.env) :: starEach [] X.env := by rfl) :
    DE (X.suite a ((a, oe) :: pn)) W (.Call (.Name "isinstance" p) [e, .Tuple es kx tpos] [] pos) (mIsXT mg' L sub ys a C d me) u := by
  subst hK
  subst hmg
  refine ⟨PE.imp (pe_callB (call_isXT hz hf) hg hm (by decide +kernel) (pa_cons he.pe (pa_cons (pe_tup hc.pa) pa_nil hs2) hs) (by decide) (by decide) hs hpl) ?_⟩
  rintro σ H Q ⟨ex, G, F, δ, τ, ts, τ1, ts1, R, n, m, kk⟩
  refine ⟨ex, G, F, δ, τ, ts, τ1, ts1, _, n, m, fun x hx v F1 H1 g1 => ?_⟩
  obtain ⟨rfl, h1, er, h2, h3, h4, _⟩ := held_of g1.top g1.fh hx
  refine ⟨by rw [List.length_map, sizeLine_eq]; omega, fun tp htp => ?_⟩
  have g2 := g1.pop.grow (o := .tup (ys.map fun y => V.ref (clsA X.mg y))) htp
  refine ⟨tp, _, _, ys.any fun y => sub er.cls y, by rw [h2]; exact T.ec.get h3, rfl, upd_same, paired_cls ys, kitAny_all fun y hy' => by rw [h2]; exact (T.kt.get h3).get (hy y hy'), fun dd e => ?_, kk _ h4 _ _ _ (g2.pushD (.bl _))⟩
  obtain ⟨q, hq⟩ := h1 dd e
  exact ⟨q, by rw [upd_ne (ne_of_none hq htp)]; exact hq⟩
/-- error.f -/
def mXf (mg : Str → Option Value) (L : List Str) (f : Str) (a C : Addr) (d : Option Addr) (me : ME) : ME := fun ex δ R => me ex δ fun x => oHeld mg L a C d x fun er => match er.arg with
  | some (f', y) => f' = f ∧ R (.d y)
  | none => False
theorem de_xf (T : XTab K' mg' L M fs sub) {f : Str} (hC : ∃ cn, cn ∈ L ∧ C = clsA mg' cn) (hz : Zc (.ref C) d oe) (hf : ∃ vs, oe.data = .fields vs) (hff : f ∈ fs) (he : DE (X.suite a ((a, oe) :: pn)) W e me u) (hK : X.K = K' := by rfl) (hmg : X.mg = mg' := by rfl) (hb : attributeBase e f X.env (eval e X.env) = eval e X.env := by rfl) :
    DE (X.suite a ((a, oe) :: pn)) W (.Attribute e f pos) (mXf mg' L f a C d me) u := by
  subst hK
  subst hmg
  obtain ⟨cn, h3, h2⟩ := hC
  have tx : XfC X.K C := by rw [h2]; exact (T.ec.get h3).xf
  have tn : findIn X.K (.ref C) f = some none := by rw [h2]; exact (T.no.get h3).get hff
  refine ⟨PE.imp (pe_xf (n := f) (pos := pos) tx tn hz hf he.pe hb) ?_⟩
  rintro σ H Q ⟨ex, G, F, δ, τ, ts, τ1, ts1, R, n, m, kk⟩
  refine ⟨ex, G, F, δ, τ, ts, τ1, ts1, _, n, m, fun x hx v F1 H1 g1 => ?_⟩
  obtain ⟨rfl, h1, er, _, h3', h4, h5⟩ := held_of g1.top g1.fh hx
  split at h4
  · rename_i f' y ea
    obtain ⟨rfl, h4⟩ := h4
    obtain ⟨dd, w, e1, e2, e3⟩ := h5 f' y ea
    exact ⟨rfl, rfl, dd, _, w, e1, e2, by simp [List.lookup], kk _ h4 _ F1 H1 (g1.pop.pushD e3)⟩
  · exact h4.elim
/-! ### raise -/
def spInit (K : Frag) (C : Addr) (f : Str) : Sp := fun vs H Q _ => ∃ a y, vs = [.ref a, y] ∧ H a = some (exo a C none) ∧ ∀ dx, H dx = none → dx ≠ a → Q .non (upd (upd H dx (exd dx [(f, y)])) a (exo a C (some dx)))
theorem init_read {K : Frag} {C : Addr} {N : List Str} {f : Str} {vs : List V} {H : Hp} {Q : VK} {E : XK} (hO : OexC K C) (hno : findIn K (.ref C) f = some none) (hN : N.length = 2) (h : spInit K C f vs H Q E) : tOst K f (tVar 0) (tVar 1) { nx := fun _ H' => Q .non H', rt := Q } (L2.start N vs) H := by
  obtain ⟨a, y, rfl, ha, hQ⟩ := h
  exact ⟨y, rfl, .ref a, rfl, a, C, rfl, hO, hno, .inl ⟨ha, fun dx n ne => hQ dx n ne⟩⟩
structure XMk (P : Program) (w : World) (K : Frag) (mg : Str → Option Value) (base : Heap) (x f : Str) : Prop where
  ex : ∃ C fI fd ps, mg x = some (.ref C) ∧ OexC K C ∧ findIn K (.ref C) "__init__" = some (some (.ref fI)) ∧ typeIn K (.ref fI) = some (.type "function") ∧ FnOk P w K mg base L2.CX0 1 fI fd ps (spInit K C f) ∧ Binds K fd ps []
def mRaise1 (x f : Str) (t : MA) : MS := fun ex E δ => t ex δ fun xs => match argsD xs with
  | some [.d y] => ex ⟨x, some (f, y)⟩ δ
  | _ => False
theorem ds_raise1 {x f : Str} (c : Ctx X W k) (M : XMk X.prog X.w X.K X.mg X.base x f) (hk : 2 ≤ k) (hc : X.calm = true) (hg : Gl X x) (ha : DA X W [e] mas u) (hdb : (x == ("__debug__" : Str)) = false := by decide)
    (he : starEach [e] X.env = (false, eval e X.env) :: starEach [] X.env := by rfl) (hpl : (backTo pos (starEach [] X.env)).any (·.1) = false := by rfl) : DS X W (.Raise (some (.Call (.Name x p) [e] [] pos)) none p2) (mRaise1 x f mas) u := by
  obtain ⟨C, fI, fd, ps, hm, hO, iC, tI, F1, hb⟩ := M.ex
  refine ⟨PS.imp (ps_raise hc c.tk (pmk_oex hO iC tI F1 (c.hr.mono hk) hb .nil L2.pass0 hg hm ha.pa hdb he hpl)) ?_⟩
  rintro D σ H ⟨ex, G, F, δ, τ, ts, E, n, nb, eo, m⟩
  refine ⟨ex, G, F, δ, τ, ts, [], [], _, n, m, fun xs hxs vs F1 H1 hl g1 => ?_⟩
  split at hxs
  · rename_i y ea
    obtain ⟨F2, s2, g2⟩ := fix_args xs g1 ea
    have hlen := (argsD_arg ea).1
    have hl1 : [DV.d y].length = vs.length := hlen.trans hl
    obtain ⟨v, rfl, hv, g3⟩ := one_of hl1 g2
    have hat : At G.K F2 v y := hv
    refine ⟨by show 1 ≤ 1000; decide, fun a na => ⟨a, v, rfl, upd_same, fun dx ndx ne => ⟨rfl, dx, [(f, v)], upd_same, by rw [upd_ne ne]; exact upd_same, by rw [upd_ne ne] at ndx; exact ndx, ?_⟩⟩⟩
    rw [upd_ne ne] at ndx
    have eH : upd (del (upd (upd (upd H1 a (exo a C none)) dx (exd dx [(f, v)])) a (exo a C (some dx))) a) dx (.xd [(f, v)]) = upd H1 dx (.xd [(f, v)]) := by
      funext b
      by_cases hbd : b = dx
      · rw [hbd, upd_same, upd_same]
      · rw [upd_ne hbd, upd_ne hbd]
        by_cases hba : b = a
        · rw [hba, del_same, na]
        · rw [del_ne hba, upd_ne hba, upd_ne hbd, upd_ne hba]
    rw [eH]
    have fdx : F2 dx = none := by
      cases q : F2 dx with
      | none => rfl
      | some o => rw [g3.fh _ _ q] at ndx; cases ndx
    have g4 := g3.grow (o := .xd [(f, v)]) ndx
    have hs : Same F2 (upd F2 dx (.xd [(f, v)])) := fun b o q => by rw [upd_ne (ne_of_none q fdx)]; exact q
    refine n.link u _ δ σ _ [] [] ⟨x, some (f, y)⟩ (.ref C) (some dx) (Nat.le_refl _) n.l1 (by simpa using g4) ⟨C, hm, rfl, dx, v, rfl, upd_same, ?_⟩ hxs
    rw [← n.k]
    exact At.mono hs _ _ hat
  · exact hxs.elim
/-! ### try -/
def cleanD (δ : Env) : Env := δ.map fun x => match x with
  | some (.bor _) => none
  | some (.bdk _) => none
  | some (.blk _ _) => none
  | y => y
theorem cleanD_len (δ : Env) : (cleanD δ).length = δ.length := by unfold cleanD; simp
theorem clean_get {δ : Env} {i : Nat} {x : DV} (h : (cleanD δ)[i]? = some (some x)) : δ[i]? = some (some x) ∧ x.isBor = false := by
  unfold cleanD at h
  rw [List.getElem?_map] at h
  cases q : δ[i]? with
  | none => rw [q] at h; cases h
  | some y =>
    rw [q] at h
    cases y with
    | none => cases h
    | some z =>
      cases z with
      | bor _ => cases h
      | bdk _ => cases h
      | blk _ _ => cases h
      | _ => cases h; exact ⟨rfl, rfl⟩
/-- what is known may be forgotten -/
theorem Good.forget {G : Gm} {F H : Hp} {δ δ' : Env} {σ : L2.St} (g : Good G F δ σ H) (hl : δ'.length = δ.length) (h : ∀ (i : Nat) (x : DV), δ'[i]? = some (some x) → δ[i]? = some (some x)) : Good G F δ' σ H :=
  ⟨g.g, hl.trans g.len, g.f0, g.fh, g.fr, g.bh, g.cf, g.jh, fun i x e => g.sl i x (h i x e), fun i j x y l hx hy e1 e2 e3 e4 => g.di i j x y l hx hy (h _ _ e1) (h _ _ e2) e3 e4⟩
theorem Good.unset {G : Gm} {F H : Hp} {A B : Env} {A' B' : L2.St} (i : Nat) (hl : A.length = A'.length) (g : Good G F (A ++ B) (A' ++ B') H) : Good G F (A.set i none ++ B) (A'.set i none ++ B') H := by
  by_cases hi : i < A.length
  · have e1 : A.set i none ++ B = (A ++ B).set i none := by rw [List.set_append_left _ _ hi]
    have e2 : A'.set i none ++ B' = (A' ++ B').set i none := by rw [List.set_append_left _ _ (by omega)]
    rw [e1, e2]
    have back : ∀ {j : Nat} {x : DV}, ((A ++ B).set i none)[j]? = some (some x) → j ≠ i ∧ (A ++ B)[j]? = some (some x) := fun {j x} e => by
      rcases get_set e with ⟨_, q, _⟩ | q
      · cases q
      · exact q
    refine ⟨g.g, by simpa using g.len, g.f0, g.fh, g.fr, g.bh, g.cf, g.jh, fun j x e => ?_, fun j k x y l hx hy a1 a2 a3 a4 => ?_⟩
    · obtain ⟨n1, q⟩ := back e
      obtain ⟨v, h1, h2⟩ := g.sl j x q
      exact ⟨v, by rw [List.getElem?_set_ne (fun z => n1 z.symm)]; exact h1, h2⟩
    · obtain ⟨n1, q1⟩ := back a1
      obtain ⟨n2, q2⟩ := back a2
      rw [List.getElem?_set_ne (fun z => n1 z.symm)] at a3
      rw [List.getElem?_set_ne (fun z => n2 z.symm)] at a4
      exact g.di j k x y l hx hy q1 q2 a3 a4
  · rw [List.set_eq_of_length_le (by omega), List.set_eq_of_length_le (by omega)]
    exact g
def mTry (mg : Str → Option Value) (L : List Str) (sub : Str → Str → Bool) (x : Str) (i : Nat) (mb : MS) (ms : Addr → Addr → Option Addr → MS) : MS := fun ex E δ => mb (fun e δ' => e.cls ∈ L ∧
  (sub e.cls x = true → ∀ a d, ms a (clsA mg e.cls) d ex0 { nx := fun δ2 => E.nx (δ2.set i none), rt := E.rt, bk := fun δ2 => E.bk (δ2.set i none), ct := fun δ2 => E.ct (δ2.set i none) } ((cleanD δ').set i (some (.exc a (clsA mg e.cls) d e)))) ∧ (sub e.cls x = false → ex e δ')) E δ
theorem nb_unset {A B : Env} {i : Nat} (h : NoBor (A ++ B)) : NoBor (A.set i none ++ B) := by
  refine nb_mk (fun j x e => ?_) (nb_right h)
  rcases get_set e with ⟨_, q, _⟩ | ⟨_, q⟩
  · cases q
  · exact nb_left h j x q
structure XEx (K : Frag) (mg : Str → Option Value) (L : List Str) (sub : Str → Str → Bool) (x : Str) : Prop where
  m : mg x = some (.ref (clsA mg x))
  e : AllS (fun y => exmOne K (.ref (clsA mg y)) (.ref (clsA mg x)) = some (sub y x)) L
theorem ds_try {i : Nat} {n x : Str} {b0 : Stmt} {body suite : List Stmt} {mb : MS} {ms : Addr → Addr → Option Addr → MS} {np pos' : Pos} (c : Ctx X W k) (T : XEx K' mg' L sub x) (hN : X.N.Nodup) (hi : X.N[i]? = some n) (hln : X.env.kindOf n = some .local) (hg : Gl X x)
    (hb : ∀ (w : WX) (pn : List (Addr × Obj)) (xe : Value → Shared → Prop), Ctx (X.tr pn xe) ⟨w, W.ck⟩ k → DSs (X.tr pn xe) ⟨w, W.ck⟩ body mb u1)
    (hsu : ∀ (a : Addr) (oe : Obj) (C : Addr) (d : Option Addr) (pn : List (Addr × Obj)), (∃ cn, cn ∈ L ∧ C = clsA mg' cn) → Zc (.ref C) d oe → (∃ vs, oe.data = .fields vs) → CtxU (X.suite a ((a, oe) :: pn)) → DSs (X.suite a ((a, oe) :: pn)) (W0 W) (b0 :: suite) (ms a C d) u2)
    (hs : X.stack = X.env :: X.outer := by rfl) (hfr : X.env.frame = some X.env.locals := by rfl) (hK : X.K = K' := by rfl) (hmg : X.mg = mg' := by rfl) (hxd : (x == ("__debug__" : Str)) = false := by decide) :
    DS X W (.Try body [.ExceptHandler (some (.Name x np)) (some n) (b0 :: suite) pos'] [] [] pos) (mTry mg' L sub x i mb ms) (u1 + u2) := by
  subst hK
  subst hmg
  refine ⟨PS.imp (ps_try_as (i := i) (c := .ref (clsA X.mg x)) (Wout := W.w) (tb := fun W' => liftS X.K X.mg ⟨W', W.ck⟩ u1 mb)
    (ts := fun a cls d D σ H => ∃ C, cls = .ref C ∧ (∃ cn, cn ∈ L ∧ C = clsA X.mg cn) ∧ liftS X.K X.mg (W0 W) u2 (ms a C d) D σ H) hs hfr hN hi hln ⟨hg, hxd, .inl T.m⟩ c.tk (fun w pn xe tk _ => (hb w pn xe ⟨c.gd, c.hr, tk⟩).pss) ?_) ?_⟩
  · intro a oe cls d pn hz hf
    refine ⟨fun pins s σ H D I q => ?_⟩
    obtain ⟨C, rfl, hC, q⟩ := q
    exact (hsu a oe C d pn hC hz hf ⟨c.gd, c.u.un⟩).pss.run pins s σ H D I q
  · rintro D σ H ⟨ex, G, F, δ, τ, ts, E, n0, nb, eo, m⟩
    refine ⟨_, G, F, δ, τ, ts, E, ⟨n0.k, n0.l1, n0.l2, n0.good, ?_, n0.ck.1, by have := n0.ck.2; omega⟩, nb, eo.le (Nat.le_add_right _ _), m⟩
    rintro b F1 δ1 σ1 H1 τ1 ts1 e cls d hb1 hl1 g1 hx ⟨hL, h1, h2⟩
    have hx0 := hx
    obtain ⟨C, hm, rfl, hx⟩ := hx
    have hC : C = clsA X.mg e.cls := (clsA_of hm).symm
    refine ⟨sub e.cls x, by rw [hC]; exact T.e.get hL, fun ht a na => ?_, fun hf => n0.link b F1 δ1 σ1 H1 τ1 ts1 e (.ref C) d (Nat.le_trans hb1 (Nat.le_add_right _ _)) hl1 g1 hx0 (h2 hf)⟩
    refine ⟨C, rfl, ⟨_, hL, hC⟩, ?_⟩
    have hlen1 : (δ1 ++ τ).length = (σ1 ++ ts).length := by simp [hl1, n0.l2]
    have gl := g1.len
    have hlen2 : τ1.length = ts1.length := by
      simp only [List.length_append] at gl hlen1
      omega
    have g2 := Good.cut hlen2 g1
    have g3 : Good (G.up b) F1 (cleanD δ1 ++ τ) (σ1 ++ ts) H1 := g2.forget (by simp [cleanD_len]) fun j y e => by
      rcases Nat.lt_or_ge j (cleanD δ1).length with q | q
      · rw [List.getElem?_append_left q] at e
        rw [List.getElem?_append_left (by rw [cleanD_len] at q; exact q)]
        exact (clean_get e).1
      · rw [List.getElem?_append_right q] at e
        rw [List.getElem?_append_right (by rw [cleanD_len] at q; exact q), ← cleanD_len]
        exact e
    have hv : VOk (G.up b) F1 H1 (.ref a) (.exc a C d e) := by
      obtain ⟨cn, arg⟩ := e
      refine ⟨rfl, ?_⟩
      cases arg with
      | none => exact hx
      | some q =>
        obtain ⟨f, y⟩ := q
        obtain ⟨dd, w, e1, e2, e3⟩ := hx
        exact ⟨dd, w, e1, e2, by show At G.K F1 w y; rw [n0.k]; exact e3⟩
    have nbc : NoBor (cleanD δ1 ++ τ) := nb_mk (fun j y e => (clean_get e).2) (nb_right nb)
    have g4 : Good (G.up b) F1 ((cleanD δ1).set i (some (.exc a C d e)) ++ τ) (σ1.set i (some (.ref a)) ++ ts) H1 := by
      by_cases hi1 : i < (cleanD δ1).length
      · have g5 := (g3.push hv (fun z => by cases z)).setTop (i := i) (by rw [List.length_append]; omega)
        rw [cleanD_len] at hi1
        rw [List.set_append_left _ _ (by rw [cleanD_len]; exact hi1), List.set_append_left _ _ (by omega)] at g5
        exact g5
      · have hi2 : σ1.length ≤ i := by rw [cleanD_len] at hi1; omega
        rw [List.set_eq_of_length_le (by omega), List.set_eq_of_length_le hi2]
        exact g3
    have hms := h1 ht a d
    rw [← hC] at hms
    refine ⟨ex0, G.up b, F1, _, τ, ts, { nx := fun δ2 => E.nx (δ2.set i none), rt := E.rt, bk := fun δ2 => E.bk (δ2.set i none), ct := fun δ2 => E.ct (δ2.set i none) }, ⟨n0.k, by simp [cleanD_len, hl1], n0.l2, by simpa using g4, pass_blk, n0.ck.1, by have := n0.ck.2; show G.n + b + u2 ≤ G.lim; omega⟩, ?_, ⟨?_, ?_, ?_, ?_⟩, hms⟩
    · refine nb_mk (fun j y e => ?_) (nb_right nb)
      rcases get_set e with ⟨_, q, _⟩ | ⟨_, q⟩
      · cases q; rfl
      · exact (clean_get q).2
    · intro δ2 h b2 σ2 F2 H2 hb2 hl nb2 g5
      exact eo.nx _ h (b + b2) _ F2 H2 (by omega) (by simpa using hl) (nb_unset nb2) (by rw [← up_up]; exact Good.unset i hl g5)
    · intro δ2 h b2 σ2 F2 H2 hb2 hl nb2 g5
      exact eo.bk _ h (b + b2) _ F2 H2 (by omega) (by simpa using hl) (nb_unset nb2) (by rw [← up_up]; exact Good.unset i hl g5)
    · intro δ2 h b2 σ2 F2 H2 hb2 hl nb2 g5
      exact eo.ct _ h (b + b2) _ F2 H2 (by omega) (by simpa using hl) (nb_unset nb2) (by rw [← up_up]; exact Good.unset i hl g5)
    · intro r h har b2 v F2 H2 hb2 g5
      exact eo.rt r h har (b + b2) v F2 H2 (by omega) (by rw [← up_up]; exact g5)
end
end DL

namespace DL
open PySem PySem.Spec L2 PySem.W
/-! ## max and min of a list or a tuple of ints -/
theorem foldl_max {n : Int} : ∀ {ns : List Int}, (ns.foldl max n = n ∨ ns.foldl max n ∈ ns) ∧ n ≤ ns.foldl max n ∧ ∀ y ∈ ns, y ≤ ns.foldl max n := by
  intro ns
  induction ns generalizing n with
  | nil => exact ⟨.inl rfl, Int.le_refl _, fun y h => by cases h⟩
  | cons a r ih =>
    rw [List.foldl_cons]
    obtain ⟨h1, h2, h3⟩ := ih (n := max n a)
    refine ⟨?_, by omega, fun y hy => ?_⟩
    · rcases h1 with h1 | h1
      · rcases Int.le_total a n with q | q
        · left; rw [h1]; omega
        · right; rw [h1]; have : max n a = a := by omega
          rw [this]; exact List.mem_cons_self
      · right; exact List.mem_cons_of_mem _ h1
    · rcases List.mem_cons.mp hy with rfl | hy
      · omega
      · exact h3 y hy
theorem foldl_min {n : Int} : ∀ {ns : List Int}, (ns.foldl min n = n ∨ ns.foldl min n ∈ ns) ∧ ns.foldl min n ≤ n ∧ ∀ y ∈ ns, ns.foldl min n ≤ y := by
  intro ns
  induction ns generalizing n with
  | nil => exact ⟨.inl rfl, Int.le_refl _, fun y h => by cases h⟩
  | cons a r ih =>
    rw [List.foldl_cons]
    obtain ⟨h1, h2, h3⟩ := ih (n := min n a)
    refine ⟨?_, by omega, fun y hy => ?_⟩
    · rcases h1 with h1 | h1
      · rcases Int.le_total n a with q | q
        · left; rw [h1]; omega
        · right; rw [h1]; have : min n a = a := by omega
          rw [this]; exact List.mem_cons_self
      · right; exact List.mem_cons_of_mem _ h1
    · rcases List.mem_cons.mp hy with rfl | hy
      · omega
      · exact h3 y hy
theorem alike_ints (ns : List Int) : AlikeAll (ns.map PyData.int) := by
  refine ⟨fun x hx y hy => ?_, fun x hx => ?_⟩
  · obtain ⟨a, _, rfl⟩ := List.mem_map.mp hx
    obtain ⟨b, _, rfl⟩ := List.mem_map.mp hy
    rfl
  · obtain ⟨a, _, rfl⟩ := List.mem_map.mp hx
    intro z; cases z
theorem depth_ints : ∀ ns : List Int, PyData.depthAll (ns.map PyData.int) = 0
  | [] => rfl
  | n :: ns => by simp [PyData.depthAll, PyData.depth, depth_ints ns]
theorem reads_ints {h : Heap} : ∀ {us : List Value} {ns : List Int}, Vals (ns.map V.int) us → ∃ as, ReadsAll h us (ns.map PyData.int) as
  | _, [], .nil => ⟨_, .nil⟩
  | _, n :: ns, .cons r rs => by
    obtain ⟨t, rfl⟩ := r
    obtain ⟨as, q⟩ := reads_ints rs
    exact ⟨_, .cons (.int n t) q⟩
def rMaxT (K : PySem.W.Frag) : List V → Hp → VK → Prop := fun vs H Q => ∃ (a : Addr) (n : Int) (ns : List Int), vs = [V.ref a] ∧ SqT K H a ((n :: ns).map V.int) ∧ Q (.int (ns.foldl max n)) H
def rMinT (K : PySem.W.Frag) : List V → Hp → VK → Prop := fun vs H Q => ∃ (a : Addr) (n : Int) (ns : List Int), vs = [V.ref a] ∧ SqT K H a ((n :: ns).map V.int) ∧ Q (.int (ns.foldl min n)) H
section
variable {X : Cx}
theorem cr_maxT (hc : X.calm = true) (hu : X.A.units + 64 < cLine) : CallR X (.builtin "max") (rMaxT X.K) := by
  intro pins s σ H vs us Q I r h
  obtain ⟨a, n, ns, rfl, hs, q⟩ := h
  obtain ⟨its, rv, ht, _⟩ := I.tuple hs
  rw [Vals.ref1 r]
  obtain ⟨as, hr⟩ := reads_ints (h := s.heap) rv
  refine max_tuple_data (I.ok.hd hc) ht hr (alike_ints (n :: ns)) (by
    have := depth_ints (n :: ns)
    simp only [List.map_cons] at this
    omega) fun i v h' tk bs _ rd hk => ?_
  rw [maxD_ints] at rd
  cases rd
  exact ⟨.int _, H, I.kept hk, ⟨_, rfl⟩, q⟩
theorem cr_minT (hc : X.calm = true) (hu : X.A.units + 64 < cLine) : CallR X (.builtin "min") (rMinT X.K) := by
  intro pins s σ H vs us Q I r h
  obtain ⟨a, n, ns, rfl, hs, q⟩ := h
  obtain ⟨its, rv, ht, _⟩ := I.tuple hs
  rw [Vals.ref1 r]
  obtain ⟨as, hr⟩ := reads_ints (h := s.heap) rv
  refine min_tuple_data (I.ok.hd hc) ht hr (alike_ints (n :: ns)) (by
    have := depth_ints (n :: ns)
    simp only [List.map_cons] at this
    omega) fun i v h' tk bs _ rd hk => ?_
  rw [minD_ints] at rd
  cases rd
  exact ⟨.int _, H, I.kept hk, ⟨_, rfl⟩, q⟩
def rMaxA (K : PySem.W.Frag) : List V → Hp → VK → Prop := fun vs H Q => rMax K vs H Q ∨ rMaxT K vs H Q
def rMinA (K : PySem.W.Frag) : List V → Hp → VK → Prop := fun vs H Q => rMin K vs H Q ∨ rMinT K vs H Q
theorem cr_maxA (hc : X.calm = true) (hu : X.A.units + 64 < cLine) : CallR X (.builtin "max") (rMaxA X.K) := by
  intro pins s σ H vs us Q I r h
  rcases h with h | h
  · exact cr_max hc pins s σ H vs us Q I r h
  · exact cr_maxT hc hu pins s σ H vs us Q I r h
theorem cr_minA (hc : X.calm = true) (hu : X.A.units + 64 < cLine) : CallR X (.builtin "min") (rMinA X.K) := by
  intro pins s σ H vs us Q I r h
  rcases h with h | h
  · exact cr_min hc pins s σ H vs us Q I r h
  · exact cr_minT hc hu pins s σ H vs us Q I r h
def DV.seqI (x : DV) : Option (List Int) := match x.seq with
  | some ds => intsOf ds
  | none => none
def oMaxA : D1 := fun x R => match x.seqI with
  | some ns => 0 < ns.length ∧ ∀ m, m ∈ ns → (∀ y, y ∈ ns → y ≤ m) → R (.d (.int m))
  | none => False
def oMinA : D1 := fun x R => match x.seqI with
  | some ns => 0 < ns.length ∧ ∀ m, m ∈ ns → (∀ y, y ∈ ns → m ≤ y) → R (.d (.int m))
  | none => False
theorem seqI_of {G : Gm} {F H : Hp} {v : V} {x : DV} {ns : List Int} (hx : VOk G F H v x) (hf : Same F H) (h : x.seqI = some ns) : ∃ l, v = .ref l ∧ (SqL G.K H l (ns.map V.int) ∨ SqT G.K H l (ns.map V.int)) := by
  unfold DV.seqI at h
  cases x with
  | d y =>
    cases y with
    | list xs =>
      have e : DV.seq (.d (.list xs)) = some xs := rfl
      rw [e] at h
      obtain ⟨l, vs, rfl, h1, h2⟩ := lst_of (xs := xs) hx hf rfl
      rw [intsOf_eq h] at h2
      rw [h2.ints] at h1
      exact ⟨l, rfl, .inl (SqL.of h1)⟩
    | tuple xs =>
      have e : DV.seq (.d (.tuple xs)) = some xs := rfl
      rw [e] at h
      obtain ⟨l, vs, rfl, h1, h2⟩ := tup_of hx hf
      rw [intsOf_eq h] at h2
      rw [h2.ints] at h1
      exact ⟨l, rfl, .inr h1⟩
    | _ => cases h
  | own xs =>
    have e : DV.seq (.own xs) = some xs := rfl
    rw [e] at h
    obtain ⟨l, vs, rfl, h1, h2⟩ := lst_of (xs := xs) hx hf rfl
    rw [intsOf_eq h] at h2
    rw [h2.ints] at h1
    exact ⟨l, rfl, .inl (SqL.of h1)⟩
  | bor xs =>
    have e : DV.seq (.bor xs) = some xs := rfl
    rw [e] at h
    obtain ⟨l, vs, rfl, h1, h2⟩ := lst_of (xs := xs) hx hf rfl
    rw [intsOf_eq h] at h2
    rw [h2.ints] at h1
    exact ⟨l, rfl, .inl (SqL.of h1)⟩
  | _ => cases h
theorem on_maxA : OpN X (rMaxA X.K) (o1 oMaxA) := on_1 fun G F δ σ H v x R Q hK g hx h k => by
  unfold oMaxA at h
  split at h
  · rename_i ns e
    obtain ⟨l, rfl, hs⟩ := seqI_of hx g.fh e
    rw [hK] at hs
    rcases hs with hs | hs
    · exact .inl ⟨l, ns, rfl, hs, h.1, fun m hm hy => k _ (h.2 m hm hy) _ F H (g.pushD (.int _))⟩
    · cases ns with
      | nil => exact absurd h.1 (Nat.lt_irrefl 0)
      | cons n ns =>
        obtain ⟨f1, f2, f3⟩ := foldl_max (n := n) (ns := ns)
        refine .inr ⟨l, n, ns, rfl, hs, k _ (h.2 _ ?_ fun y hy => ?_) _ F H (g.pushD (.int _))⟩
        · rcases f1 with f1 | f1
          · rw [f1]; exact List.mem_cons_self
          · exact List.mem_cons_of_mem _ f1
        · rcases List.mem_cons.mp hy with rfl | hy
          · exact f2
          · exact f3 y hy
  · exact h.elim
theorem on_minA : OpN X (rMinA X.K) (o1 oMinA) := on_1 fun G F δ σ H v x R Q hK g hx h k => by
  unfold oMinA at h
  split at h
  · rename_i ns e
    obtain ⟨l, rfl, hs⟩ := seqI_of hx g.fh e
    rw [hK] at hs
    rcases hs with hs | hs
    · exact .inl ⟨l, ns, rfl, hs, h.1, fun m hm hy => k _ (h.2 m hm hy) _ F H (g.pushD (.int _))⟩
    · cases ns with
      | nil => exact absurd h.1 (Nat.lt_irrefl 0)
      | cons n ns =>
        obtain ⟨f1, f2, f3⟩ := foldl_min (n := n) (ns := ns)
        refine .inr ⟨l, n, ns, rfl, hs, k _ (h.2 _ ?_ fun y hy => ?_) _ F H (g.pushD (.int _))⟩
        · rcases f1 with f1 | f1
          · rw [f1]; exact List.mem_cons_self
          · exact List.mem_cons_of_mem _ f1
        · rcases List.mem_cons.mp hy with rfl | hy
          · exact f2
          · exact f3 y hy
  · exact h.elim
variable {W : WC} {e : Expr} {mas : MA} {u : Nat} {p pos : Pos}
theorem de_maxA (cx : CtxU X) (hc : X.calm = true) (hg : Gl X "max") (hm : X.mg "max" = none) (ha : DA X W [e] mas u) (he : starEach [e] X.env = (false, eval e X.env) :: starEach [] X.env := by rfl) (hpl : (backTo pos (starEach [] X.env)).any (·.1) = false := by rfl) :
    DE X W (.Call (.Name "max" p) [e] [] pos) (mCB (o1 oMaxA) mas) u := de_callB (cr_maxA hc cx.u64) on_maxA hg hm (by decide +kernel) ha (by decide) (by decide) he hpl
theorem de_minA (cx : CtxU X) (hc : X.calm = true) (hg : Gl X "min") (hm : X.mg "min" = none) (ha : DA X W [e] mas u) (he : starEach [e] X.env = (false, eval e X.env) :: starEach [] X.env := by rfl) (hpl : (backTo pos (starEach [] X.env)).any (·.1) = false := by rfl) :
    DE X W (.Call (.Name "min" p) [e] [] pos) (mCB (o1 oMinA) mas) u := de_callB (cr_minA hc cx.u64) on_minA hg hm (by decide +kernel) ha (by decide) (by decide) he hpl
end
section
variable {xs : List PyData} {R : DV → Prop}
theorem oMaxA_t : oMaxA (.d (.tuple xs)) R = (match intsOf xs with | some ns => 0 < ns.length ∧ ∀ m, m ∈ ns → (∀ y, y ∈ ns → y ≤ m) → R (.d (.int m)) | none => False) := rfl
theorem oMaxA_l : oMaxA (.d (.list xs)) R = (match intsOf xs with | some ns => 0 < ns.length ∧ ∀ m, m ∈ ns → (∀ y, y ∈ ns → y ≤ m) → R (.d (.int m)) | none => False) := rfl
theorem oMaxA_o : oMaxA (.own xs) R = (match intsOf xs with | some ns => 0 < ns.length ∧ ∀ m, m ∈ ns → (∀ y, y ∈ ns → y ≤ m) → R (.d (.int m)) | none => False) := rfl
theorem oMaxA_b : oMaxA (.bor xs) R = (match intsOf xs with | some ns => 0 < ns.length ∧ ∀ m, m ∈ ns → (∀ y, y ∈ ns → y ≤ m) → R (.d (.int m)) | none => False) := rfl
theorem oMinA_t : oMinA (.d (.tuple xs)) R = (match intsOf xs with | some ns => 0 < ns.length ∧ ∀ m, m ∈ ns → (∀ y, y ∈ ns → m ≤ y) → R (.d (.int m)) | none => False) := rfl
theorem oMinA_l : oMinA (.d (.list xs)) R = (match intsOf xs with | some ns => 0 < ns.length ∧ ∀ m, m ∈ ns → (∀ y, y ∈ ns → m ≤ y) → R (.d (.int m)) | none => False) := rfl
theorem oMinA_o : oMinA (.own xs) R = (match intsOf xs with | some ns => 0 < ns.length ∧ ∀ m, m ∈ ns → (∀ y, y ∈ ns → m ≤ y) → R (.d (.int m)) | none => False) := rfl
theorem oMinA_b : oMinA (.bor xs) R = (match intsOf xs with | some ns => 0 < ns.length ∧ ∀ m, m ∈ ns → (∀ y, y ∈ ns → m ≤ y) → R (.d (.int m)) | none => False) := rfl
theorem isBor_e {a C : Addr} {d : Option Addr} {er : DExc} : DV.isBor (.exc a C d er) = false := rfl
theorem seen_e {a C : Addr} {d : Option Addr} {er : DExc} : DV.seen (.exc a C d er) = .exc a C d er := rfl
theorem cl_nil : cleanD [] = [] := rfl
theorem cl_none {δ : Env} : cleanD (none :: δ) = none :: cleanD δ := rfl
theorem cl_d {x : PyData} {δ : Env} : cleanD (some (.d x) :: δ) = some (.d x) :: cleanD δ := rfl
theorem cl_o {δ : Env} : cleanD (some (.own xs) :: δ) = some (.own xs) :: cleanD δ := rfl
theorem cl_c {δ : Env} : cleanD (some .cask :: δ) = some .cask :: cleanD δ := rfl
theorem held_e {mg : Str → Option Value} {L : List Str} {a C a' C' : Addr} {d d' : Option Addr} {er : DExc} {P : DExc → Prop} : oHeld mg L a C d (.exc a' C' d' er) P = (a' = a ∧ C' = C ∧ d' = d ∧ C = clsA mg er.cls ∧ er.cls ∈ L ∧ P er) := rfl
end
theorem eqv_ii {a b : Int} : PyData.eqv (.int a) (.int b) = decide (a = b) := by
  simp only [PyData.eqv]
  by_cases h : a = b <;> simp [h]
theorem eqv_ss {a b : Str} : PyData.eqv (.str a) (.str b) = decide (a = b) := by
  simp only [PyData.eqv]
  by_cases h : a = b <;> simp [h]
theorem eqv_bb {a b : Bool} : PyData.eqv (.bool a) (.bool b) = decide (a = b) := by
  simp only [PyData.eqv]
  cases a <;> cases b <;> rfl
theorem shaped_i {i : Int} : (SeqAt.shaped (.int i) = true) = True := by simp [shaped_int]
theorem shaped_b {b : Bool} : (SeqAt.shaped (.bool b) = true) = True := by simp [SeqAt.shaped, PyData.canLay0, PyData.depth]
theorem shaped_n : (SeqAt.shaped .none = true) = True := by simp [SeqAt.shaped, PyData.canLay0, PyData.depth]
theorem shaped_nil : (SeqAt.shaped (.list []) = true) = True := by simp [SeqAt.shaped, PyData.canLay0, PyData.depth, PyData.canLayAll0, PyData.depthAll]
theorem shaped_nilt : (SeqAt.shaped (.tuple []) = true) = True := by simp [SeqAt.shaped, PyData.canLay0, PyData.depth, PyData.canLayAll0, PyData.depthAll]
theorem if_tt {α : Type} {a b : α} : (if true = true then a else b) = a := rfl
theorem if_ff {α : Type} {a b : α} : (if false = true then a else b) = b := rfl
theorem cp2 : CPow 10 2 = True := eq_true ⟨by decide, by decide, by decide⟩
theorem pw2 : (10 : Int) ^ Int.toNat 2 = 100 := by decide
theorem cp3 : CPow 10 3 = True := eq_true ⟨by decide, by decide, by decide⟩
theorem pw3 : (10 : Int) ^ Int.toNat 3 = 1000 := by decide
theorem cp4 : CPow 10 4 = True := eq_true ⟨by decide, by decide, by decide⟩
theorem pw4 : (10 : Int) ^ Int.toNat 4 = 10000 := by decide
theorem cp5 : CPow 10 5 = True := eq_true ⟨by decide, by decide, by decide⟩
theorem pw5 : (10 : Int) ^ Int.toNat 5 = 100000 := by decide
theorem cp6 : CPow 10 6 = True := eq_true ⟨by decide, by decide, by decide⟩
theorem pw6 : (10 : Int) ^ Int.toNat 6 = 1000000 := by decide
theorem cp7 : CPow 10 7 = True := eq_true ⟨by decide, by decide, by decide⟩
theorem pw7 : (10 : Int) ^ Int.toNat 7 = 10000000 := by decide
theorem cp8 : CPow 10 8 = True := eq_true ⟨by decide, by decide, by decide⟩
theorem pw8 : (10 : Int) ^ Int.toNat 8 = 100000000 := by decide
theorem cp9 : CPow 10 9 = True := eq_true ⟨by decide, by decide, by decide⟩
theorem pw9 : (10 : Int) ^ Int.toNat 9 = 1000000000 := by decide
theorem cp10 : CPow 10 10 = True := eq_true ⟨by decide, by decide, by decide⟩
theorem pw10 : (10 : Int) ^ Int.toNat 10 = 10000000000 := by decide
theorem cp11 : CPow 10 11 = True := eq_true ⟨by decide, by decide, by decide⟩
theorem pw11 : (10 : Int) ^ Int.toNat 11 = 100000000000 := by decide
theorem cp12 : CPow 10 12 = True := eq_true ⟨by decide, by decide, by decide⟩
theorem pw12 : (10 : Int) ^ Int.toNat 12 = 1000000000000 := by decide
theorem cp13 : CPow 10 13 = True := eq_true ⟨by decide, by decide, by decide⟩
theorem pw13 : (10 : Int) ^ Int.toNat 13 = 10000000000000 := by decide
theorem cp14 : CPow 10 14 = True := eq_true ⟨by decide, by decide, by decide⟩
theorem pw14 : (10 : Int) ^ Int.toNat 14 = 100000000000000 := by decide
theorem cp15 : CPow 10 15 = True := eq_true ⟨by decide, by decide, by decide⟩
theorem pw15 : (10 : Int) ^ Int.toNat 15 = 1000000000000000 := by decide
theorem cp16 : CPow 10 16 = True := eq_true ⟨by decide, by decide, by decide⟩
theorem pw16 : (10 : Int) ^ Int.toNat 16 = 10000000000000000 := by decide
theorem cp17 : CPow 10 17 = True := eq_true ⟨by decide, by decide, by decide⟩
theorem pw17 : (10 : Int) ^ Int.toNat 17 = 100000000000000000 := by decide
theorem cp18 : CPow 10 18 = True := eq_true ⟨by decide, by decide, by decide⟩
theorem pw18 : (10 : Int) ^ Int.toNat 18 = 1000000000000000000 := by decide
theorem cp19 : CPow 10 19 = True := eq_true ⟨by decide, by decide, by decide⟩
theorem pw19 : (10 : Int) ^ Int.toNat 19 = 10000000000000000000 := by decide
theorem cp20 : CPow 10 20 = True := eq_true ⟨by decide, by decide, by decide⟩
theorem pw20 : (10 : Int) ^ Int.toNat 20 = 100000000000000000000 := by decide
theorem cp21 : CPow 10 21 = True := eq_true ⟨by decide, by decide, by decide⟩
theorem pw21 : (10 : Int) ^ Int.toNat 21 = 1000000000000000000000 := by decide
theorem cp22 : CPow 10 22 = True := eq_true ⟨by decide, by decide, by decide⟩
theorem pw22 : (10 : Int) ^ Int.toNat 22 = 10000000000000000000000 := by decide
theorem cp23 : CPow 10 23 = True := eq_true ⟨by decide, by decide, by decide⟩
theorem pw23 : (10 : Int) ^ Int.toNat 23 = 100000000000000000000000 := by decide
theorem cp24 : CPow 10 24 = True := eq_true ⟨by decide, by decide, by decide⟩
theorem pw24 : (10 : Int) ^ Int.toNat 24 = 1000000000000000000000000 := by decide
theorem cp25 : CPow 10 25 = True := eq_true ⟨by decide, by decide, by decide⟩
theorem pw25 : (10 : Int) ^ Int.toNat 25 = 10000000000000000000000000 := by decide
theorem cp26 : CPow 10 26 = True := eq_true ⟨by decide, by decide, by decide⟩
theorem pw26 : (10 : Int) ^ Int.toNat 26 = 100000000000000000000000000 := by decide
theorem cp27 : CPow 10 27 = True := eq_true ⟨by decide, by decide, by decide⟩
theorem pw27 : (10 : Int) ^ Int.toNat 27 = 1000000000000000000000000000 := by decide
theorem cp28 : CPow 10 28 = True := eq_true ⟨by decide, by decide, by decide⟩
theorem pw28 : (10 : Int) ^ Int.toNat 28 = 10000000000000000000000000000 := by decide
theorem cp29 : CPow 10 29 = True := eq_true ⟨by decide, by decide, by decide⟩
theorem pw29 : (10 : Int) ^ Int.toNat 29 = 100000000000000000000000000000 := by decide
theorem cp30 : CPow 10 30 = True := eq_true ⟨by decide, by decide, by decide⟩
theorem pw30 : (10 : Int) ^ Int.toNat 30 = 1000000000000000000000000000000 := by decide
theorem cp31 : CPow 10 31 = True := eq_true ⟨by decide, by decide, by decide⟩
theorem pw31 : (10 : Int) ^ Int.toNat 31 = 10000000000000000000000000000000 := by decide
theorem cp32 : CPow 10 32 = True := eq_true ⟨by decide, by decide, by decide⟩
theorem pw32 : (10 : Int) ^ Int.toNat 32 = 100000000000000000000000000000000 := by decide
theorem cp33 : CPow 10 33 = True := eq_true ⟨by decide, by decide, by decide⟩
theorem pw33 : (10 : Int) ^ Int.toNat 33 = 1000000000000000000000000000000000 := by decide
theorem cp34 : CPow 10 34 = True := eq_true ⟨by decide, by decide, by decide⟩
theorem pw34 : (10 : Int) ^ Int.toNat 34 = 10000000000000000000000000000000000 := by decide
theorem cp35 : CPow 10 35 = True := eq_true ⟨by decide, by decide, by decide⟩
theorem pw35 : (10 : Int) ^ Int.toNat 35 = 100000000000000000000000000000000000 := by decide
theorem cp36 : CPow 10 36 = True := eq_true ⟨by decide, by decide, by decide⟩
theorem pw36 : (10 : Int) ^ Int.toNat 36 = 1000000000000000000000000000000000000 := by decide
theorem cp37 : CPow 10 37 = True := eq_true ⟨by decide, by decide, by decide⟩
theorem pw37 : (10 : Int) ^ Int.toNat 37 = 10000000000000000000000000000000000000 := by decide
theorem cp38 : CPow 10 38 = True := eq_true ⟨by decide, by decide, by decide⟩
theorem pw38 : (10 : Int) ^ Int.toNat 38 = 100000000000000000000000000000000000000 := by decide
theorem cp39 : CPow 10 39 = True := eq_true ⟨by decide, by decide, by decide⟩
theorem pw39 : (10 : Int) ^ Int.toNat 39 = 1000000000000000000000000000000000000000 := by decide
theorem cp40 : CPow 10 40 = True := eq_true ⟨by decide, by decide, by decide⟩
theorem pw40 : (10 : Int) ^ Int.toNat 40 = 10000000000000000000000000000000000000000 := by decide
/-- max of two ints in a tuple -/
theorem maxA2 {a b : Int} {R : DV → Prop} (h : R (.d (.int (max a b)))) : oMaxA (.d (.tuple [.int a, .int b])) R := by
  refine ⟨by simp, fun m hm hy => ?_⟩
  have h1 := hy a (by simp)
  have h2 := hy b (by simp)
  have e : m = max a b := by
    rcases List.mem_cons.mp hm with rfl | hm
    · omega
    · rcases List.mem_cons.mp hm with rfl | hm
      · omega
      · cases hm
  rw [e]; exact h
theorem cdiv {i m : Int} (h0 : 0 < m) (h1 : m ≤ 2 ^ 100) : CDivW i m := ⟨h0, by
  have h2 : m.natAbs < 2 ^ 101 := by
    have e : ((2 ^ 101 : Nat) : Int) = 2 ^ 101 := by norm_cast
    have e2 : (2 : Int) ^ 100 < 2 ^ 101 := by decide
    omega
  have := (Nat.log2_lt (by omega) (k := 101)).mpr h2
  omega⟩
theorem eqv_self (a : Str) : PyData.eqv (.str a) (.str a) = true := by simp [PyData.eqv]
end DL

namespace DL
open PySem PySem.Spec L2 StX
/-! ## defs with a star parameter -/
structure FnS (P : Program) (w : World) (K : PySem.W.Frag) (mg : Str → Option Value) (base : Heap) (k : Nat) (f : Addr) (sp : Sp) : Prop where
  run : ∀ (A : Around) (outer : List PySem.Env) (s : Shared) (H : Hp) (us : List Value) (vs : List V) (Q : VK) (E : XK), A.guards = some [] → Room k A → Env0 P w K mg base A outer s H → Vals vs us → sp vs H Q E →
    codeAny (model P w) A (.call (.ref f) ⟨us, []⟩) (CR (L2.CX P w) outer P w H s Q E) s
section
variable {P : Program} {w : World} {K : PySem.W.Frag} {mg : Str → Option Value} {base : Heap}
theorem FnS.mono {j k : Nat} {f : Addr} {sp : Sp} (h : FnS P w K mg base j f sp) (q : j ≤ k) : FnS P w K mg base k f sp :=
  ⟨fun A outer s H us vs Q E hg hr => h.run A outer s H us vs Q E hg (hr.mono q)⟩
theorem fnS_star {x qual pv : Str} {st : Stmt} {f : Addr} {fd : FuncData} {N ps : List Str} {k : Nat} {sp : Sp} (T : L2.Fun K x qual st f fd) (S : FnScope N (ps ++ [pv]) (L2.defScope st))
    (hb : ∀ us rest : List Value, us.length = ps.length → bindArgs fd ⟨us ++ rest, []⟩ = (newTuple rest >>= fun t => pure (ps.zip us ++ [(pv, t)])))
    (body : ∀ (cdv : Value) (A : Around) (outer : List PySem.Env) (s : Shared) (H : Hp) (vs : List V) (Q : VK) (E : XK), A.guards = some [] → Room k (A.deeper (PyProof.Rows.envOfC qual (L2.defScope st) s.heap.objs.size f cdv)) → sp vs H Q E →
      ∃ t, PSs (cxOf (L2.CX P w) P w K mg base N qual (L2.defScope st) f cdv A outer s H E) (L2.defBody st) t ∧ t { nx := fun _ H' => Q .non H', rt := Q } (start N vs) H) :
    FnS P w K mg base (k + 1) f (fun vs H Q E => ∃ ws rest, vs = ws ++ rest ∧ ws.length = ps.length ∧ rest.length ≤ sizeLine ∧ ∀ p, H p = none → sp (ws ++ [V.ref p]) (upd H p (.tup rest)) Q E) := by
  obtain ⟨oc, od, kV, doc, pm, an, cdv, ct, osl, rfl, lk, hcd⟩ := T.ex
  refine ⟨fun A outer s H us vs Q E hg hr e0 r hsp => ?_⟩
  obtain ⟨ws, rest, rfl, hw, hz, hq⟩ := hsp
  obtain ⟨x1, x2, rfl, rv1, rv2⟩ := StX.vals_split r
  have nw : H s.heap.objs.size = none := e0.hok.fresh (Nat.le_refl _)
  have l1 : x1.length = ps.length := rv1.length.symm.trans hw
  have l2 : x2.length ≤ sizeLine := by rw [← rv2.length]; exact hz
  refine run_bnd lk hcd S hr e0 (G := fun zs H2 => ∃ p, H p = none ∧ zs = ws ++ [V.ref p] ∧ H2 = upd H p (.tup rest)) (fun A' Ex Q' h => ?_) fun s2 H2 zs hG hr' => ?_
  · rw [hb x1 x2 l1]
    refine wpAny_bind (wpAny_newTuple (wpAny_pure ?_) l2)
    have ob : ObjOk P w (upd H s.heap.objs.size (.tup rest)) (s.heap.push ({ cls := .type "tuple", data := .seq x2.toArray } : Obj)) s.heap.objs.size (.tup rest) := ⟨hz, x2, rv2, ⟨_, Heap.get?_push_size _ rfl, rfl, _, rfl⟩⟩
    have ul := un_laid (fs := frs outer) (s := s) (o := ({ cls := .type "tuple", data := .seq x2.toArray } : Obj)) (u := .tup rest) nw
    have q := h _ _ (ws ++ [V.ref s.heap.objs.size]) (x1 ++ [Value.ref s.heap.objs.size]) (env0_laid e0 ob) ul rfl (fun e s' => cxUp outer s H _ _ E e s' ul (fun b o z => Heap.get?_push_of_some _ z) rfl) (rv1.append (.cons rfl .nil))
      (by rw [List.length_append, List.length_append, hw] <;> rfl) ⟨_, nw, rfl, rfl⟩
    rw [List.zip_append l1.symm] at q
    exact q
  · obtain ⟨p, hp, rfl, rfl⟩ := hG
    exact body cdv A outer s2 _ _ Q E hg hr' (hq p hp)
/-- the promise of such a def as data -/
def spS (K : PySem.W.Frag) (mg : Str → Option Value) (CK : CKT) (u : Nat) (mf : MF) : Sp := fun vs H Q E => ∃ (G : Gm) (F : Hp) (as : List DV) (R : DV → Prop) (ex : DExc → Prop), G.K = K ∧ (CK G.C G.cv G.J G.lim ∧ G.n + u ≤ G.lim) ∧ as.length = vs.length ∧ (∀ x ∈ as, x.arg = true) ∧ Good G F (as.map some) (vs.map some) H ∧ mf as R ex ∧
  (∀ r, R r → r.arg = true → ∀ v F' H', Good (G.up u) F' [some r] [some v] H' → Q v H') ∧
  (∀ e, ex e → ∀ b cls d F' H', b ≤ u → Good (G.up b) F' [] [] H' → ExcAt K mg F' H' e cls d → E cls d H')
structure DFnS (P : Program) (w : World) (K : PySem.W.Frag) (mg : Str → Option Value) (base : Heap) (CK : CKT) (x : Str) (k u : Nat) (mf : MF) : Prop where
  ex : ∃ f, mg x = some (.ref f) ∧ PySem.W.keepIn K (.ref f) = true ∧ FnS P w K mg base k f (spS K mg CK u mf)
theorem lift_start {u : Nat} {N : List Str} {m : MS} {CK : CKT} {G : Gm} {F H : Hp} {as : List DV} {vs : List V} {R : DV → Prop} {ex : DExc → Prop} {Q : VK} {E : XK} (hK : G.K = K) (hck : CK G.C G.cv G.J G.lim ∧ G.n + u ≤ G.lim) (hl : as.length = vs.length) (harg : ∀ x ∈ as, x.arg = true)
    (g : Good G F (as.map some) (vs.map some) H) (hp : bodyD N.length m as R ex) (hR : ∀ r, R r → r.arg = true → ∀ v F' H', Good (G.up u) F' [some r] [some v] H' → Q v H')
    (hE : ∀ e, ex e → ∀ b cls d F' H', b ≤ u → Good (G.up b) F' [] [] H' → ExcAt K mg F' H' e cls d → E cls d H') :
    liftS K mg ⟨fun cls d _ H => E cls d H, CK⟩ u m { nx := fun _ H' => Q .non H', rt := Q } (start N vs) H := by
  refine ⟨fun e _ => ex e, G, F, startD N.length as, [], [], { nx := fun _ => R (.d .none), rt := R, bk := fun _ => False, ct := fun _ => False }, ⟨hK, ?_, rfl, ?_, fun b F' δ' σ' H' τ1 ts1 e cls d hb h1 h2 h3 h4 => ?_, hck⟩, ?_, ⟨fun δ' h' b σ' F' H' hb l' nb' g' => ?_, fun _ z => z.elim, fun _ z => z.elim, fun r hr ha b v F' H' hb g' => hR r hr ha v F' H' (g'.mono hb)⟩, hp⟩
  · unfold startD L2.start
    simp [hl]
  · unfold startD L2.start
    have := g.more (N.length - as.length)
    rw [hl] at this ⊢
    simpa using this
  · refine hE e h4 b cls d F' H' hb (Good.cut (A := []) (A' := []) (B := δ' ++ [] ++ τ1) (B' := σ' ++ [] ++ ts1) h2.len h2) h3
  · intro i x e
    unfold startD at e
    simp only [List.append_nil] at e
    rcases Nat.lt_or_ge i (as.map some).length with q | q
    · rw [List.getElem?_append_left q, List.getElem?_map] at e
      cases q2 : as[i]? with
      | none => rw [q2] at e; cases e
      | some y =>
        rw [q2] at e
        cases e
        have := harg x (List.mem_of_getElem? q2)
        cases x with
        | bor _ => cases this
        | bdk _ => cases this
        | blk _ _ => cases this
        | _ => rfl
    · rw [List.getElem?_append_right q, List.getElem?_replicate] at e
      split at e <;> cases e
  · refine hR _ h' rfl .non F' H' ?_
    have g0 : Good (G.up b) F' ([] : Env) ([] : L2.St) H' := Good.cut (A := []) (A' := []) (B := δ' ++ []) (B' := σ' ++ []) g'.len g'
    exact (Good.pushD g0 .non).mono hb
/-- def x(a, .., *v) -/
theorem dfnS_of {u : Nat} {x qual pv : Str} {st : Stmt} {f : Addr} {fd : FuncData} {N ps : List Str} {k : Nat} {m : MS} {mf : MF} {CK : CKT} (hm : mg x = some (.ref f)) (T : L2.Fun K x qual st f fd) (S : FnScope N (ps ++ [pv]) (L2.defScope st))
    (hb : ∀ us rest : List Value, us.length = ps.length → bindArgs fd ⟨us ++ rest, []⟩ = (newTuple rest >>= fun t => pure (ps.zip us ++ [(pv, t)])))
    (body : ∀ (cdv : Value) (A : Around) (outer : List PySem.Env) (s : Shared) (H : Hp) (E : XK), Ctx (cxOf (L2.CX P w) P w K mg base N qual (L2.defScope st) f cdv A outer s H E) ⟨fun cls d _ H => E cls d H, CK⟩ k →
      DSs (cxOf (L2.CX P w) P w K mg base N qual (L2.defScope st) f cdv A outer s H E) ⟨fun cls d _ H => E cls d H, CK⟩ (L2.defBody st) m u)
    (post : ∀ as R ex, mf as R ex → ∃ ws ds, as = ws ++ ds.map DV.d ∧ ws.length = ps.length ∧ ds.length ≤ sizeLine ∧ bodyD N.length m (ws ++ [.d (.tuple ds)]) R ex) : DFnS P w K mg base CK x (k + 1) u mf := by
  have hbody := fnS_star (P := P) (w := w) (mg := mg) (base := base) (k := k) (sp := fun vs H Q E => ∃ (G : Gm) (F : Hp) (as : List DV) (R : DV → Prop) (ex : DExc → Prop), G.K = K ∧ (CK G.C G.cv G.J G.lim ∧ G.n + u ≤ G.lim) ∧ as.length = vs.length ∧ (∀ x ∈ as, x.arg = true) ∧ Good G F (as.map some) (vs.map some) H ∧ bodyD N.length m as R ex ∧
    (∀ r, R r → r.arg = true → ∀ v F' H', Good (G.up u) F' [some r] [some v] H' → Q v H') ∧ (∀ e, ex e → ∀ b cls d F' H', b ≤ u → Good (G.up b) F' [] [] H' → ExcAt K mg F' H' e cls d → E cls d H')) T S hb fun cdv A outer s H vs Q E hg hr q => by
      obtain ⟨G, F, as, R, ex, hK, hck, hl, harg, g, h, hR, hE⟩ := q
      exact ⟨_, (body cdv A outer s H E ⟨hg, hr, takes_of rfl rfl rfl rfl⟩).pss, lift_start hK hck hl harg g h hR hE⟩
  refine ⟨f, hm, T.kp, ⟨fun A outer s H us vs Q E hg hr e0 r q => hbody.run A outer s H us vs Q E hg hr e0 r ?_⟩⟩
  obtain ⟨G, F, as, R, ex, hK, hck, hl, harg, g, h, hR, hE⟩ := q
  obtain ⟨ws, ds, rfl, hw, hz, hp⟩ := post as R ex h
  have hlen : ws.length + ds.length = vs.length := by simpa using hl
  have e1 : vs = vs.take ws.length ++ vs.drop ws.length := (List.take_append_drop _ _).symm
  have lt : (vs.take ws.length).length = ws.length := by rw [List.length_take]; omega
  have ld : ds.length = (vs.drop ws.length).length := by rw [List.length_drop]; omega
  have g2 : Good G F (ws.map some ++ ds.map (fun d => some (DV.d d))) ((vs.take ws.length).map some ++ (vs.drop ws.length).map some) H := by
    have e2 : (ds.map DV.d).map some = ds.map (fun d => some (DV.d d)) := by simp
    rw [← List.map_append, ← e1, ← e2, ← List.map_append]
    exact g
  have hat := atL_of ld g2
  have g3 := g2.cut (by simp [ld])
  refine ⟨vs.take ws.length, vs.drop ws.length, e1, lt.trans hw, by rw [← ld]; exact hz, fun p hp0 => ?_⟩
  have g4 := g3.newT hp0 hat
  refine ⟨G, _, ws ++ [.d (.tuple ds)], R, ex, hK, hck, by simp [lt], fun y hy => ?_, by simpa using g4, hp, hR, hE⟩
  rcases List.mem_append.mp hy with hy | hy
  · exact harg y (List.mem_append_left _ hy)
  · cases List.mem_singleton.mp hy
    rfl
end
section
variable {X : Cx} {W : WC} {e : Expr} {es : List Expr} {pos p : Pos} {mas : MA} {x : Str} {k j u1 u2 : Nat} {mf : MF}
def mCallS (mf : MF) (t : MA) : ME := fun ex δ R => t ex δ fun xs => match argsD xs with
  | some as => mf as R (fun e => ex e δ)
  | none => False
theorem spS_lift (σ : L2.St) (H : Hp) (Q : VK) (q : liftE X.K X.mg W (u1 + u2) (mCallS mf mas) σ H Q) :
    liftA X.K X.mg W u1 mas σ H fun vs H1 => spS X.K X.mg W.ck u2 mf vs H1 Q (WE W.w σ) := by
  obtain ⟨ex, G, F, δ, τ, ts, τ1, ts1, R, nw, m, kk⟩ := q
  refine ⟨ex, G, F, δ, τ, ts, τ1, ts1, _, nw.fst, m, fun xs hxs vs F1 H1 hl g1 => ?_⟩
  split at hxs
  · rename_i as ea
    obtain ⟨h1, h2⟩ := argsD_arg ea
    obtain ⟨F2, s2, g2⟩ := fix_args xs g1 ea
    have hla : as.length = vs.length := h1.trans hl
    have gb := g2.cut (by simpa using hla)
    refine ⟨(G.up u1).into F2 H1, F2, as, R, fun e => ex e δ, nw.k, ⟨nw.ck.1, by have := nw.ck.2; show G.n + u1 + u2 ≤ G.lim; omega⟩, hla, h2, gb.into h2 hla fun i x e => Good.nth hla g2 e, hxs, fun r hr ha v F' H' g' => kk r hr v F' H' (by rw [← up_up]; exact gb.ret (δ₁ := []) (σ₁ := []) ha g'), fun e he b cls d F' H' hb g' hx => ?_⟩
    exact nw.link (u1 + b) F' δ σ H' τ1 ts1 e cls d (by omega) nw.l1 (by rw [← up_up]; exact gb.back g') hx he
  · exact hxs.elim
theorem callS_run {f : Addr} {sp : Sp} {pins : List (Addr × Obj)} {σ : L2.St} {H : Hp} {s : Shared} {Q : VK} {us : List Value} {vs : List V} {wx : WX} (F : FnS X.prog X.w X.K X.mg X.base k f sp) (hg : X.A.guards = some []) (hr : Room k X.A) (tk : Takes X wx)
    (I : Inv X pins σ H s) (r : Vals vs us) (h : sp vs H Q (WE wx σ)) : wpAny (model X.prog X.w) X.A (call (.ref f) us) (EP X pins σ Q) X.xe s := by
  refine wpAny_call (codeAny_mono (F.run X.A X.stack s H us vs Q (WE wx σ) hg hr I.env0 r h) fun res s' hq => ?_)
  match res, hq with
  | .error e, hq => exact passAt tk σ pins H s e s' I hq
  | .ok (.ret u), hq => exact I.after hq
theorem de_callSt (c : Ctx X W j) (F : DFnS X.prog X.w X.K X.mg X.base W.ck x k u2 mf) (hk : k ≤ j) (hg : Gl X x) (ha : DA X W (e :: es) mas u1) (hdb : (x == ("__debug__" : Str)) = false := by decide)
    (he : starEach (e :: es) X.env = (false, eval e X.env) :: starEach es X.env := by rfl) (hpl : (backTo pos (starEach es X.env)).any (·.1) = false := by rfl) : DE X W (.Call (.Name x p) (e :: es) [] pos) (mCallS mf mas) (u1 + u2) := by
  obtain ⟨f, hm, hkp, hF⟩ := F
  refine ⟨⟨fun pins s σ H Q I h => ?_⟩⟩
  have h' := spS_lift σ H Q h
  refine wpAny_Call_Name_kw (ld_glob I hg hm ?_ hdb)
  exact PySem.W.callWith_K (h₀ := X.base) I.ok.mod.kin hkp (thn (ha.pa.run pos pins s σ H _ I h') fun us s1 ⟨vs, H1, I1, r, q⟩ => ⟨I1.kIn, callS_run hF c.gd (c.hr.mono hk) c.tk I1 r q⟩) he hpl
end
theorem DFnS.le {P : Program} {w : World} {K : PySem.W.Frag} {mg : Str → Option Value} {base : Heap} {CK : CKT} {x : Str} {k u u' : Nat} {mf : MF} (h : DFnS P w K mg base CK x k u mf) (hu : u ≤ u') : DFnS P w K mg base CK x k u' mf := by
  obtain ⟨f, h1, h2, h5⟩ := h
  refine ⟨f, h1, h2, ⟨fun A outer s H us vs Q E hg hr e0 r q => h5.run A outer s H us vs Q E hg hr e0 r ?_⟩⟩
  obtain ⟨G, F, as, R, ex, q2, q3, q4, q5, q6, q7, q8, q9⟩ := q
  exact ⟨G, F, as, R, ex, q2, ⟨q3.1, Nat.le_trans (Nat.add_le_add_left hu _) q3.2⟩, q4, q5, q6, q7, fun r hr ha v F' H' g => q8 r hr ha v F' H' (g.mono hu), fun e he b cls d F' H' hb g => q9 e he b cls d F' H' (Nat.le_trans hb hu) g⟩
end DL

/-! ## enumerate over a tuple -/
namespace PySem
open Sem (wp)
theorem enum_one {v : Value} {o : Obj} {Hy : Heap → Prop} (B : Begins v o Hy) : Meets (Builtin.«enumerate.__new__» ⟨[.type "enumerate", v], []⟩) (fun _ R s => Hy s.heap ∧
    R (.ok (.ret (.ref (s.heap.push o).objs.size))) { s with heap := (s.heap.push o).push { cls := .type "enumerate", data := .fields #[.none, .bool false, .ref s.heap.objs.size, rawInt 0, .none, .none] } }) :=
  .of_wp fun prog w A R s h => by
    obtain ⟨hp, gg, dr, tk, os⟩ := s
    obtain ⟨hy, h⟩ := h
    have hsub := sub_enumerate
    have begin_ : ∀ {A' : Around} {E : Value → Shared → Prop} {Q : Value → Shared → Prop}, Q (.ref hp.objs.size) ⟨hp.push o, gg, dr, tk, os⟩ → wpAny (model prog w) A' (pyIter v) Q E ⟨hp, gg, dr, tk, os⟩ := fun q => B.iter prog w _ _ ⟨hp, gg, dr, tk, os⟩ _ hy q
    wp_walk using begin_
    refine wpAny_stack_any fun st => wpAny_pure ?_
    split
    · rename_i c _ _ _ _ _
      cases (c == Value.type "enumerate") <;> (wp_walk using begin_; exact ⟨_, rfl, h⟩)
    · wp_walk using begin_
      exact ⟨_, rfl, h⟩
theorem enum_call {prog : Program} {w : World} {A : Around} {E : Value → Shared → Prop} {s : Shared} {v : Value} {o : Obj} {Hy : Heap → Prop} {Q : Value → Shared → Prop} (B : Begins v o Hy) (hy : Hy s.heap)
    (h : ∀ h', IsEnum h' (s.heap.objs.size + 1) s.heap.objs.size 0 .none → h'.get? s.heap.objs.size = some o → (∀ b u, s.heap.get? b = some u → h'.get? b = some u) → Q (.ref (s.heap.objs.size + 1)) { s with heap := h' }) :
    wpAny (model prog w) A (call (.type "enumerate") [v]) Q E s := by
  refine callType_new F.called_enumerate (by decide) (F.typeCall_enumerate_1 _) (F.newCall_enumerate_1 _) (fun obj => F.args_object_init_2 obj _) F.entry_enumerate_new (enum_one B) ⟨hy, ?_⟩
  have sz : (s.heap.push o).objs.size = s.heap.objs.size + 1 := Heap.size_push ..
  show _ ∧ _
  rw [sz]
  obtain ⟨eo, heo⟩ : ∃ eo : Obj, eo = { cls := .type "enumerate", data := .fields #[.none, .bool false, .ref s.heap.objs.size, rawInt 0, .none, .none] } := ⟨_, rfl⟩
  have he : IsEnum ((s.heap.push o).push eo) (s.heap.objs.size + 1) s.heap.objs.size 0 .none := by
    have q := Heap.get?_push_size (s.heap.push o) (o := eo) (by rw [heo]; rfl)
    rw [sz] at q
    rw [heo] at q ⊢
    exact q
  rw [← heo]
  exact ⟨⟨_, by rw [heo] at he ⊢; exact he, rfl⟩, h _ he (Heap.get?_push_of_some _ (Heap.get?_push_size _ B.free)) fun b u q => Heap.get?_push_of_some _ (Heap.get?_push_of_some _ q)⟩
end PySem
namespace DL
open PySem PySem.Spec L2 StX
def IteT (K : PySem.W.Frag) (a : Addr) : It :=
  ⟨fun i H => ∃ (xs : List V) (x : V), SqT K H a xs ∧ xs[i]? = some x, fun i H v H' => ∃ T x, v = .ref T ∧ H T = none ∧ H' = upd H T (.tup [.int (i : Nat), x]) ∧ ∀ xs, SqT K H a xs → xs[i]? = some x, fun i H => ∃ xs : List V, SqT K H a xs ∧ xs.length ≤ i⟩
theorem tup_inj {X : Cx} {pins : List (Addr × Obj)} {σ : L2.St} {H : Hp} {s : Shared} {a : Addr} {xs ys : List V} (I : Inv X pins σ H s) (h1 : SqT X.K H a xs) (h2 : SqT X.K H a ys) : xs = ys := I.tuple_inj h1 h2
theorem turn_enumT {P : Program} {w : World} {K : PySem.W.Frag} {elts : List Expr} {kk : Nat} {tpos : Pos} (a e it : Addr) :
    Turn P w K (.Tuple elts kk tpos) (IteT K a) [e, it] e (fun i h => (∃ old, IsEnum h e it ((i : Nat) : Int) old) ∧ h.IsTupleIter it a i ∧ e ≠ it) := by
  refine ⟨by simp, fun i h st b hb => ?_, fun i h h' st k => ?_, ?_, ?_, fun A i s Q E st h => ?_⟩
  · obtain ⟨⟨old, he⟩, ⟨o, ho, hc, hd⟩, _⟩ := st
    rcases List.mem_cons.mp hb with rfl | hb
    · exact ⟨_, he, fun v q => nomatch q⟩
    · rw [List.mem_singleton.mp hb]
      exact ⟨o, ho, fun v q => by rw [hd] at q; cases q⟩
  · obtain ⟨⟨old, he⟩, hi, hne⟩ := st
    exact ⟨⟨old, k e (by simp) _ he⟩, hi.at fun o q => k it (by simp) o q, hne⟩
  · intro X hP hw hK hc i pins s σ H E I hf st hg
    subst hP hw hK
    obtain ⟨⟨old, he⟩, hit, hne⟩ := st
    obtain ⟨xs, x, hq, hx⟩ := hg
    obtain ⟨its, rv, p, hz⟩ := I.tuple hq
    obtain ⟨u, hu, ru⟩ := rv.get hx
    have le1 : e < s.heap.objs.size := Heap.lt_size he
    have le2 : it < s.heap.objs.size := by obtain ⟨_, q, _⟩ := hit; exact Heap.lt_size q
    have nea : e ≠ a := fun z => by
      obtain ⟨o, ho, hcl, _⟩ := p
      rw [← z, he] at ho
      cases ho
      exact absurd hcl (by simp)
    have nia : a ≠ it := fun z => by
      obtain ⟨o, ho, hcl, _⟩ := p
      obtain ⟨o2, ho2, hcl2, _⟩ := hit
      rw [z, ho2] at ho
      cases ho
      rw [hcl2] at hcl
      exact absurd hcl (by simp)
    have D := Draws.tuple (prog := X.prog) (w := X.w) (A := X.A.in1) (by show X.A.handled = none; exact I.ok.hd hc) it a nia its.toArray
    have hlt : i < its.toArray.size := by
      have := (List.getElem?_eq_some_iff.mp hu).1
      simpa using this
    refine wpAny_pyNext_enum_itemC D he ⟨hit, p⟩ hlt hne (by simp [nea, hne]) fun y h' tk hP ho hst hT hsz hk => ?_
    have hy : y = u := by
      have e1 : its.toArray[i]? = some u := by simpa using hu
      rw [e1] at hP
      exact (Option.some.inj hP).symm
    subst hy
    refine ⟨_, rfl, wpAny_letOwnedTupleGo_enum (s := { s with heap := h', toks := tk + 1 }) ho fun h'' he' sb => ?_⟩
    have hT2 : h''.get? s.heap.objs.size = some { cls := .type "tuple", data := .seq #[.int ((i : Nat) : Int) tk, y] } := (sb.2 _ (Nat.ne_of_gt le1)).trans hT
    have ob : ObjOk X.prog X.w (upd H s.heap.objs.size (.tup [.int (i : Nat), x])) h'' s.heap.objs.size (.tup [.int (i : Nat), x]) :=
      ⟨by show 2 ≤ sizeLine; decide, [.int (i : Nat) tk, y], .cons ⟨_, rfl⟩ (.cons ru .nil), ⟨_, hT2, rfl, _, rfl⟩⟩
    have I1 : Inv X pins σ (upd H s.heap.objs.size (.tup [.int (i : Nat), x])) { s with heap := h'', toks := tk + 1 } :=
      I.turnedNew (ch := [e, it]) (fun b ob hb q => (sb.2 b (fun z => hb (by simp [z]))).trans (hk b ob (fun z => hb (by simp [z])) (fun z => hb (by simp [z])) q)) hf (Nat.le_refl _) ob
    refine ⟨.ref s.heap.objs.size, _, I1, rfl, ⟨_, x, rfl, I.hok.fresh (Nat.le_refl _), rfl, fun ys hy => by rw [tup_inj I hy hq]; exact hx⟩, ⟨⟨y, ?_⟩, hst.1.at fun o q => (sb.2 it (Ne.symm hne)).trans q, hne⟩, fun b hb => ?_⟩
    · have e1 : ((i + 1 : Nat) : Int) = (i : Int) + 1 := by omega
      rw [e1]; exact he'
    · have hb' : b < s.heap.objs.size := by
        rcases List.mem_cons.mp hb with rfl | hb
        · exact le1
        · rw [List.mem_singleton.mp hb]; exact le2
      rw [upd_ne (Nat.ne_of_lt hb')]
      exact (hf b hb).1
  · intro X hP hw hK hc i pins s σ H E I hf st hg
    subst hP hw hK
    obtain ⟨⟨old, he⟩, hit, hne⟩ := st
    obtain ⟨xs, hq, hx⟩ := hg
    obtain ⟨its, rv, p, hz⟩ := I.tuple hq
    obtain ⟨f0, f1, f2, f3, f4, f5⟩ := hf it (by simp)
    have hl := rv.length
    have nia : a ≠ it := fun z => by
      obtain ⟨o, ho, hcl, _⟩ := p
      obtain ⟨o2, ho2, hcl2, _⟩ := hit
      rw [z, ho2] at ho
      cases ho
      rw [hcl2] at hcl
      exact absurd hcl (by simp)
    have hh : X.A.in1.handled = none := by show X.A.handled = none; exact I.ok.hd hc
    -- an iterator behind the end ends
    have D : Draws X.prog X.w X.A.in1 it [it, a] i (fun j v => False) (fun j h => h.IsTupleIter it a i ∧ h.IsTuple a its.toArray ∧ j = i) := by
      refine ⟨fun _ _ st => let ⟨o, ho, _⟩ := st.1; ⟨o, ho⟩, fun _ _ _ st hk => ⟨st.1.at fun o e => hk it (by simp) o e, st.2.1.at fun o e => hk a (by simp) o e, st.2.2⟩, fun j s Q E hj st _ => absurd st.2.2 (Nat.ne_of_lt hj), fun s Q E st hE => ?_⟩
      exact wpAny_nextOf_tuple_end hh st.1 st.2.1 (by simp; omega) hE
    exact wpAny_pyNext_enum_endD D he ⟨hit, p, rfl⟩ fun h' eb => ⟨rfl, I.turned (t' := s.toks) (fun b o hb q => eb b o hb q) f0 f1 f3 f4 f5⟩
  · obtain ⟨⟨_, he⟩, _⟩ := st
    exact wpAny_pyIter_enum he h
def iEnumT (K : PySem.W.Frag) (ta : TA) : TI := fun σ H R => ta σ H fun vs H1 => ∃ a xs, vs = [.ref a] ∧ SqT K H1 a xs ∧ R (IteT K a) H1
theorem pi_enumT {X : Cx} {e : Expr} {ta : TA} {p pos tpos : Pos} {elts : List Expr} {kk : Nat} (hg : Gl X "enumerate") (hm : X.mg "enumerate" = none) (ha : PA X [e] ta) (hs : starEach [e] X.env = [(false, eval e X.env)] := by rfl) :
    PI X (.Tuple elts kk tpos) (.Call (.Name "enumerate" p) [e] [] pos) (iEnumT X.K ta) := by
  refine ⟨fun pins s σ H R I h => ?_⟩
  refine PyProof.Rows.Call_ (ld_blt I hg hm PyProof.Rows.boot_enumerate (PyProof.Rows.callWith_type1 (thn (ha.run pos pins s σ H _ I h) fun us s1 ⟨vs, H1, I1, r1, q1⟩ => ?_) hs rfl))
  obtain ⟨a, xs, rfl, hq, q⟩ := q1
  rw [Vals.ref1 r1]
  obtain ⟨its, rv, p', hz⟩ := I1.tuple hq
  refine enum_call (begins_tuple a its.toArray) p' fun h' he ho hk => wpAny_pyIter_enum he ?_
  have I2 : Inv X pins σ H1 { s1 with heap := h' } := I1.kept (t' := s1.toks) hk
  refine ⟨s1.heap.objs.size + 1, [s1.heap.objs.size + 1, s1.heap.objs.size], _, _, H1, rfl, I2, turn_enumT a (s1.heap.objs.size + 1) s1.heap.objs.size, ⟨⟨.none, he⟩, ⟨_, ho, rfl, rfl⟩, Nat.succ_ne_self _⟩, fun b hb => ?_, q⟩
  have hle : s1.heap.objs.size ≤ b := by
    rcases List.mem_cons.mp hb with rfl | hb
    · exact Nat.le_add_right _ _
    · rw [List.mem_singleton.mp hb]; exact Nat.le_refl _
  exact I1.fpOk hle (I1.hok.fresh hle)
end DL
namespace DL
open PySem PySem.Spec L2 StX
/-! ### the walks as data -/
def enumD : Nat → List PyData → List PyData
  | _, [] => []
  | k, d :: ds => .tuple [.int (k : Nat), d] :: enumD (k + 1) ds
theorem enumD_get : ∀ {k : Nat} {ds : List PyData} {i : Nat}, (enumD k ds)[i]? = ds[i]?.map fun d => .tuple [.int ((k + i : Nat) : Int), d]
  | _, [], _ => by simp [enumD]
  | k, d :: ds, 0 => by simp [enumD]
  | k, d :: ds, i + 1 => by
    simp only [enumD, List.getElem?_cons_succ]
    rw [enumD_get]
    have : k + 1 + i = k + (i + 1) := by omega
    rw [this]
theorem enumD_len : ∀ {k : Nat} {ds : List PyData}, (enumD k ds).length = ds.length
  | _, [] => rfl
  | k, d :: ds => by simp [enumD, enumD_len]
def zipD : List PyData → List PyData → List PyData
  | x :: xs, y :: ys => .tuple [x, y] :: zipD xs ys
  | _, _ => []
theorem zipD_get : ∀ {xs ys : List PyData} {i : Nat} {d : PyData}, (zipD xs ys)[i]? = some d → ∃ x y, xs[i]? = some x ∧ ys[i]? = some y ∧ d = .tuple [x, y]
  | [], _, i, d, e => by simp [zipD] at e
  | x :: xs, [], i, d, e => by simp [zipD] at e
  | x :: xs, y :: ys, 0, d, e => by simp [zipD] at e; exact ⟨x, y, rfl, rfl, e.symm⟩
  | x :: xs, y :: ys, i + 1, d, e => by
    simp only [zipD, List.getElem?_cons_succ] at e ⊢
    exact zipD_get e
theorem zipD_len : ∀ {xs ys : List PyData}, (zipD xs ys).length = min xs.length ys.length
  | [], _ => by simp [zipD]
  | x :: xs, [] => by simp [zipD]
  | x :: xs, y :: ys => by simp only [zipD, List.length_cons, zipD_len]; omega
section
variable {X : Cx} {W : WC} {u : Nat} {e e2 : Expr} {mas : MA} {elts : List Expr} {kk : Nat} {tpos p pos : Pos}
theorem pair_new {G : Gm} {F H : Hp} {A : Env} {A' : L2.St} {T : Addr} {v w : V} {d c : PyData} (g : Good G F A A' H) (hT : H T = none) (h1 : At G.K F v d) (h2 : At G.K F w c) : ∃ F', Good G F' (A ++ [some (.d (.tuple [d, c]))]) (A' ++ [some (.ref T)]) (upd H T (.tup [v, w])) :=
  ⟨_, g.newT hT (.cons h1 (.cons h2 .nil))⟩
def mIEnumL (mas : MA) : MI := fun ex δ R => mas ex δ fun xs => match xs with
  | [x] => match x.rd with
    | some ds => R ⟨[x], enumD 0 ds⟩
    | none => False
  | _ => False
theorem di_enumL (hg : Gl X "enumerate") (hm : X.mg "enumerate" = none) (ha : DA X W [e] mas u) (hs : starEach [e] X.env = [(false, eval e X.env)] := by rfl) : DI X W (.Tuple elts kk tpos) (.Call (.Name "enumerate" p) [e] [] pos) (mIEnumL mas) u :=
  ⟨PI.imp (pi_enum hg hm ha.pa hs) fun σ H Q q => by
    obtain ⟨ex, G, F, δ, τ, ts, τ1, ts1, R, n, m, k⟩ := q
    refine ⟨ex, G, F, δ, τ, ts, τ1, ts1, _, n, m, fun xs hxs vs F1 H1 hl g1 => ?_⟩
    match xs, hxs, hl, g1 with
    | [x], hxs, hl, g1 =>
      obtain ⟨v, rfl, hv, g⟩ := one_of hl g1
      have hxs : (match x.rd with | some ds => R ⟨[x], enumD 0 ds⟩ | none => False) := hxs
      split at hxs
      · rename_i ds ex
        obtain ⟨l, vs, rfl, hs, ha⟩ := rd_of hv g1.fh ex
        rw [show (G.up u).K = X.K from n.k] at hs
        refine ⟨l, vs, rfl, hs, k _ hxs [.ref l] F1 H1 _ rfl g1 fun b i F2 A B A' B' H2 hA hB g2 => ?_⟩
        have ht := sub1 (g2.cut hB)
        obtain ⟨l', vs', e1, hs0, ha'⟩ := rd_of ht g2.fh ex
        cases e1
        have hs' : SqL X.K H2 l vs' := by rw [← n.k]; exact hs0
        refine ⟨fun hi => ⟨vs', hs', by rw [ha'.length]; rw [enumD_len] at hi; exact hi⟩, fun d hd => ?_⟩
        rw [enumD_get] at hd
        cases hd0 : ds[i]? with
        | none => rw [hd0] at hd; cases hd
        | some d0 =>
          rw [hd0] at hd
          cases hd
          obtain ⟨w, ew, hw⟩ := ha'.get hd0
          refine ⟨⟨vs', w, hs', ew⟩, fun y H3 hy => ?_⟩
          obtain ⟨T, w', rfl, hT, rfl, hy⟩ := hy
          have := hy vs' hs'
          rw [ew] at this
          cases this
          have hi0 : ((0 + i : Nat) : Int) = (i : Nat) := by omega
          rw [hi0]
          exact pair_new g2 hT (.int _) hw
      · exact hxs.elim⟩
def mIEnumT (mas : MA) : MI := fun ex δ R => mas ex δ fun xs => match xs with
  | [.d (.tuple ds)] => R ⟨[.d (.tuple ds)], enumD 0 ds⟩
  | _ => False
theorem di_enumT (hg : Gl X "enumerate") (hm : X.mg "enumerate" = none) (ha : DA X W [e] mas u) (hs : starEach [e] X.env = [(false, eval e X.env)] := by rfl) : DI X W (.Tuple elts kk tpos) (.Call (.Name "enumerate" p) [e] [] pos) (mIEnumT mas) u :=
  ⟨PI.imp (pi_enumT hg hm ha.pa hs) fun σ H Q q => by
    obtain ⟨ex, G, F, δ, τ, ts, τ1, ts1, R, n, m, k⟩ := q
    refine ⟨ex, G, F, δ, τ, ts, τ1, ts1, _, n, m, fun xs hxs vs F1 H1 hl g1 => ?_⟩
    match xs, hxs, hl, g1 with
    | [.d (.tuple ds)], hxs, hl, g1 =>
      obtain ⟨v, rfl, hv, g⟩ := one_of hl g1
      obtain ⟨l, vs, rfl, hs, ha⟩ := tup_of hv g1.fh
      rw [show (G.up u).K = X.K from n.k] at hs
      refine ⟨l, vs, rfl, hs, k _ hxs [.ref l] F1 H1 _ rfl g1 fun b i F2 A B A' B' H2 hA hB g2 => ?_⟩
      have ht := sub1 (g2.cut hB)
      obtain ⟨l', vs', e1, hs0, ha'⟩ := tup_of ht g2.fh
      cases e1
      have hs' : SqT X.K H2 l vs' := by rw [← n.k]; exact hs0
      refine ⟨fun hi => ⟨vs', hs', by rw [ha'.length]; rw [enumD_len] at hi; exact hi⟩, fun d hd => ?_⟩
      rw [enumD_get] at hd
      cases hd0 : ds[i]? with
      | none => rw [hd0] at hd; cases hd
      | some d0 =>
        rw [hd0] at hd
        cases hd
        obtain ⟨w, ew, hw⟩ := ha'.get hd0
        refine ⟨⟨vs', w, hs', ew⟩, fun y H3 hy => ?_⟩
        obtain ⟨T, w', rfl, hT, rfl, hy⟩ := hy
        have := hy vs' hs'
        rw [ew] at this
        cases this
        have hi0 : ((0 + i : Nat) : Int) = (i : Nat) := by omega
        rw [hi0]
        exact pair_new g2 hT (.int _) hw⟩
def mIZipT (mas : MA) : MI := fun ex δ R => mas ex δ fun xs => match xs with
  | [.d (.tuple ds), .d (.tuple es)] => R ⟨[.d (.tuple ds), .d (.tuple es)], zipD ds es⟩
  | _ => False
theorem di_zipT (hg : Gl X "zip") (hm : X.mg "zip" = none) (ha : DA X W [e, e2] mas u) (hs : starEach [e, e2] X.env = (false, eval e X.env) :: starEach [e2] X.env := by rfl) (hpl : (backTo pos (starEach [e2] X.env)).any (·.1) = false := by rfl) :
    DI X W (.Tuple elts kk tpos) (.Call (.Name "zip" p) [e, e2] [] pos) (mIZipT mas) u :=
  ⟨PI.imp (RZ.pi_zipA hg hm ha.pa hs hpl) fun σ H Q q => by
    obtain ⟨ex, G, F, δ, τ, ts, τ1, ts1, R, n, m, k⟩ := q
    refine ⟨ex, G, F, δ, τ, ts, τ1, ts1, _, n, m, fun xs hxs vs F1 H1 hl g1 => ?_⟩
    match xs, hxs, hl, g1 with
    | [.d (.tuple ds), .d (.tuple es)], hxs, hl, g1 =>
      obtain ⟨v1, v2, rfl, hv1, hv2, g⟩ := two_of hl g1
      obtain ⟨l1, vs1, rfl, hs1, ha1⟩ := tup_of hv1 g1.fh
      obtain ⟨l2, vs2, rfl, hs2, ha2⟩ := tup_of hv2 g1.fh
      rw [show (G.up u).K = X.K from n.k] at hs1 hs2
      refine ⟨l1, l2, vs1, vs2, rfl, .inr ⟨hs1, hs2, k _ hxs [.ref l1, .ref l2] F1 H1 _ rfl g1 fun b i F2 A B A' B' H2 hA hB g2 => ?_⟩⟩
      obtain ⟨w1, w2, ew, ht1, ht2, _⟩ := two_of (x := .d (.tuple ds)) (y := .d (.tuple es)) rfl (g2.cut hB)
      cases ew
      obtain ⟨l1', vs1', e1, hs1', ha1'⟩ := tup_of ht1 g2.fh
      obtain ⟨l2', vs2', e2, hs2', ha2'⟩ := tup_of ht2 g2.fh
      cases e1
      cases e2
      have k1 : SqT X.K H2 l1 vs1' := by rw [← n.k]; exact hs1'
      have k2 : SqT X.K H2 l2 vs2' := by rw [← n.k]; exact hs2'
      refine ⟨fun hi => ⟨vs1', vs2', k1, k2, ?_⟩, fun d hd => ?_⟩
      · rw [zipD_len] at hi
        rw [ha1'.length, ha2'.length]
        omega
      · obtain ⟨x, y, hx, hy, rfl⟩ := zipD_get hd
        obtain ⟨w1, ew1, hw1⟩ := ha1'.get hx
        obtain ⟨w2, ew2, hw2⟩ := ha2'.get hy
        refine ⟨⟨vs1', vs2', w1, w2, k1, k2, ew1, ew2⟩, fun z H3 hz => ?_⟩
        obtain ⟨T, x', y', rfl, hT, rfl, hz1, hz2⟩ := hz
        have a1 := hz1 vs1' k1
        have a2 := hz2 vs2' k2
        rw [ew1] at a1
        rw [ew2] at a2
        cases a1
        cases a2
        exact pair_new g2 hT hw1 hw2⟩
def mIZipL (mas : MA) : MI := fun ex δ R => mas ex δ fun xs => match xs with
  | [x, y] => match x.rd, y.rd with
    | some ds, some es => R ⟨[x, y], zipD ds es⟩
    | _, _ => False
  | _ => False
theorem di_zipL (hg : Gl X "zip") (hm : X.mg "zip" = none) (ha : DA X W [e, e2] mas u) (hs : starEach [e, e2] X.env = (false, eval e X.env) :: starEach [e2] X.env := by rfl) (hpl : (backTo pos (starEach [e2] X.env)).any (·.1) = false := by rfl) :
    DI X W (.Tuple elts kk tpos) (.Call (.Name "zip" p) [e, e2] [] pos) (mIZipL mas) u :=
  ⟨PI.imp (RZ.pi_zipA hg hm ha.pa hs hpl) fun σ H Q q => by
    obtain ⟨ex, G, F, δ, τ, ts, τ1, ts1, R, n, m, k⟩ := q
    refine ⟨ex, G, F, δ, τ, ts, τ1, ts1, _, n, m, fun xs hxs vs F1 H1 hl g1 => ?_⟩
    match xs, hxs, hl, g1 with
    | [x, y], hxs, hl, g1 =>
      obtain ⟨v1, v2, rfl, hv1, hv2, g⟩ := two_of hl g1
      have hxs : (match x.rd, y.rd with | some ds, some es => R ⟨[x, y], zipD ds es⟩ | _, _ => False) := hxs
      split at hxs
      · rename_i ds es ex1 ex2
        obtain ⟨l1, vs1, rfl, hs1, ha1⟩ := rd_of hv1 g1.fh ex1
        obtain ⟨l2, vs2, rfl, hs2, ha2⟩ := rd_of hv2 g1.fh ex2
        rw [show (G.up u).K = X.K from n.k] at hs1 hs2
        refine ⟨l1, l2, vs1, vs2, rfl, .inl ⟨hs1, hs2, k _ hxs [.ref l1, .ref l2] F1 H1 _ rfl g1 fun b i F2 A B A' B' H2 hA hB g2 => ?_⟩⟩
        obtain ⟨w1, w2, ew, ht1, ht2, _⟩ := two_of (x := x) (y := y) rfl (g2.cut hB)
        cases ew
        obtain ⟨l1', vs1', e1, hs1', ha1'⟩ := rd_of ht1 g2.fh ex1
        obtain ⟨l2', vs2', e2, hs2', ha2'⟩ := rd_of ht2 g2.fh ex2
        cases e1
        cases e2
        have k1 : SqL X.K H2 l1 vs1' := by rw [← n.k]; exact hs1'
        have k2 : SqL X.K H2 l2 vs2' := by rw [← n.k]; exact hs2'
        refine ⟨fun hi => ⟨vs1', vs2', k1, k2, ?_⟩, fun d hd => ?_⟩
        · rw [zipD_len] at hi
          rw [ha1'.length, ha2'.length]
          omega
        · obtain ⟨x, y, hx, hy, rfl⟩ := zipD_get hd
          obtain ⟨w1, ew1, hw1⟩ := ha1'.get hx
          obtain ⟨w2, ew2, hw2⟩ := ha2'.get hy
          refine ⟨⟨vs1', vs2', w1, w2, k1, k2, ew1, ew2⟩, fun z H3 hz => ?_⟩
          obtain ⟨T, x', y', rfl, hT, rfl, hz1, hz2⟩ := hz
          have a1 := hz1 vs1' k1
          have a2 := hz2 vs2' k2
          rw [ew1] at a1
          rw [ew2] at a2
          cases a1
          cases a2
          exact pair_new g2 hT hw1 hw2
      · exact hxs.elim⟩
end
end DL

namespace DL
open PySem PySem.Spec L2 PyProof.Rows
/-! ## longer chains of comparisons; == in a chain -/
section
variable {u u1 u2 u3 u4 : Nat} {X : Cx} {W : WC} {a b c d : Expr} {pos : Pos} {ma mb mc md : ME}
def tChain3 (r r' r'' : R2) (ta tb tc td : TE) : TE := fun σ H Q => ta σ H fun x H1 => tb σ H1 fun y H2 => r x y H2 fun z H3 => ∃ k, z = .bl k ∧
  (if k = true then tc σ H3 fun y2 H4 => r' y y2 H4 (fun z2 H5 => ∃ k2, z2 = .bl k2 ∧ (if k2 = true then td σ H5 fun w H6 => r'' y2 w H6 Q else Q (.bl false) H5)) else Q (.bl false) H3)
theorem pe_chain3 {op op' op'' : CmpOp} {r r' r'' : R2} {ta tb tc td : TE} (ho : OpR X (compareOp op) r) (ho' : OpR X (compareOp op') r') (ho'' : OpR X (compareOp op'') r'') (ha : PE X a ta) (hb : PE X b tb) (hc : PE X c tc) (hd : PE X d td)
    (hm : lastMarks [op, op', op''] [b, c, d] = false := by with_unfolding_all rfl) : PE X (.Compare a [op, op', op''] [b, c, d] pos) (tChain3 r r' r'' ta tb tc td) := by
  refine ⟨fun pins s σ H Q I h => ?_⟩
  refine Compare_chain (thn (ha.run pins s σ H _ I h) fun v s1 ⟨x, H1, I1, r1, q1⟩ => chain_link (thn (hb.run pins s1 σ H1 _ I1 q1) fun u s2 ⟨y, H2, I2, r2, q2⟩ =>
    thn (ho pins s2 σ H2 x y v u _ I2 r1 r2 q2) fun d3 s3 ⟨z, H3, I3, r3, k, e, q3⟩ => ?_)) hm
  subst e
  cases r3
  refine wpAny_truthy_bool ?_
  cases k with
  | false => exact ite_ff ⟨.bl false, H3, I3, rfl, q3⟩
  | true =>
    refine ite_tt (chain_link (thn (hc.run pins s3 σ H3 _ I3 q3) fun u' s4 ⟨y2, H4, I4, r4, q4⟩ => thn (ho' pins s4 σ H4 y y2 u u' _ I4 r2 r4 q4) fun d5 s5 ⟨z2, H5, I5, r5, k2, e2, q5⟩ => ?_))
    subst e2
    cases r5
    refine wpAny_truthy_bool ?_
    cases k2 with
    | false => exact ite_ff ⟨.bl false, H5, I5, rfl, q5⟩
    | true => exact ite_tt (chain_last (thn (hd.run pins s5 σ H5 _ I5 q5) fun w' s6 ⟨z', H6, I6, r6, q6⟩ => ho'' pins s6 σ H6 y2 z' u' w' Q I6 r4 r6 q6))
def mChain3 (o o' o'' : D2) (ma mb mc md : ME) : ME := fun ex δ R => ma ex δ fun x => mb ex δ fun y => o x y fun z => z.tru fun k => (k = true → mc ex δ fun w => o' y w fun z => z.tru fun k => (k = true → md ex δ fun w2 => o'' w w2 R) ∧ (k = false → R (.d (.bool false)))) ∧ (k = false → R (.d (.bool false)))
theorem chain3_lift {r r' r'' : R2} {o o' o'' : D2} (h : Op2 X r o) (h' : Op2 X r' o') (h'' : Op2 X r'' o'') (hs : ∀ x y R, o x y R → o x y fun z => R z ∧ ∃ k, z = .d (.bool k)) (hs' : ∀ x y R, o' x y R → o' x y fun z => R z ∧ ∃ k, z = .d (.bool k)) (σ : L2.St) (H : Hp) (Q : VK)
    (q : liftE X.K X.mg W (u1 + (u2 + (u3 + u4))) (mChain3 o o' o'' ma mb mc md) σ H Q) : tChain3 r r' r'' (liftE X.K X.mg W u1 ma) (liftE X.K X.mg W u2 mb) (liftE X.K X.mg W u3 mc) (liftE X.K X.mg W u4 md) σ H Q := by
  obtain ⟨ex, G, F, δ, τ, ts, τ1, ts1, R, n, m, k⟩ := q
  refine ⟨ex, G, F, δ, τ, ts, τ1, ts1, _, n.fst, m, fun x hx v F1 H1 g1 => ?_⟩
  have n1 := n.after g1
  refine ⟨ex, G.up u1, F1, δ, τ, ts, _, _, _, n1.fst, hx, fun y hy u F2 H2 g2 => ?_⟩
  have e1 : Good (G.up (u1 + u2)) F2 (δ ++ τ ++ τ1 ++ [some x] ++ [some y]) (σ ++ ts ++ ts1 ++ [some v] ++ [some u]) H2 := by
    rw [up_up] at g2
    simpa only [List.append_assoc] using g2
  refine h (G.up (u1 + u2)) F2 _ _ H2 v u x y _ _ n.k e1 e1.pop.top e1.top (hs _ _ _ hy) fun z ⟨hz, bk, ez⟩ w F3 H3 g3 => ?_
  subst ez
  have t : VOk (G.up (u1 + u2)) F3 H3 w (.d (.bool bk)) := g3.top
  cases t
  refine ⟨bk, rfl, ?_⟩
  cases bk with
  | false =>
    rw [if_neg Bool.false_ne_true]
    exact k _ (hz.2 rfl) _ F3 H3 ((g3.pop.pop.pop.pushD (.bl false)).mono (by omega))
  | true =>
    rw [if_pos rfl]
    have e3 : Good ((G.up u1).up u2) F3 (δ ++ τ ++ (τ1 ++ [some x]) ++ [some y]) (σ ++ ts ++ (ts1 ++ [some v]) ++ [some u]) H3 := by
      have := g3.pop
      rw [← up_up] at this
      simpa only [List.append_assoc] using this
    have n2 := n1.after e3
    refine ⟨ex, (G.up u1).up u2, F3, δ, τ, ts, _, _, _, n2.fst, hz.1 rfl, fun y' hy' u' F4 H4 g4 => ?_⟩
    have e4 : Good (G.up (u1 + (u2 + u3))) F4 (δ ++ τ ++ τ1 ++ [some x] ++ [some y] ++ [some y']) (σ ++ ts ++ ts1 ++ [some v] ++ [some u] ++ [some u']) H4 := by
      rw [up_up, up_up] at g4
      simpa only [List.append_assoc] using g4
    refine h' (G.up (u1 + (u2 + u3))) F4 _ _ H4 u u' y y' _ _ n.k e4 e4.pop.top e4.top (hs' _ _ _ hy') fun z ⟨hz, bk, ez⟩ w F5 H5 g5 => ?_
    subst ez
    have t : VOk (G.up (u1 + (u2 + u3))) F5 H5 w (.d (.bool bk)) := g5.top
    cases t
    refine ⟨bk, rfl, ?_⟩
    cases bk with
    | false =>
      rw [if_neg Bool.false_ne_true]
      exact k _ (hz.2 rfl) _ F5 H5 ((g5.pop.pop.pop.pop.pushD (.bl false)).mono (by omega))
    | true =>
      rw [if_pos rfl]
      have e5 : Good (((G.up u1).up u2).up u3) F5 (δ ++ τ ++ (τ1 ++ [some x] ++ [some y]) ++ [some y']) (σ ++ ts ++ (ts1 ++ [some v] ++ [some u]) ++ [some u']) H5 := by
        have := g5.pop
        rw [up_up, up_up]
        simpa only [List.append_assoc] using this
      refine ⟨ex, ((G.up u1).up u2).up u3, F5, δ, τ, ts, _, _, _, n2.after e5, hz.1 rfl, fun y2 hy2 u2' F6 H6 g6 => ?_⟩
      have e6 : Good (G.up (u1 + (u2 + (u3 + u4)))) F6 (δ ++ τ ++ τ1 ++ [some x] ++ [some y] ++ [some y'] ++ [some y2]) (σ ++ ts ++ ts1 ++ [some v] ++ [some u] ++ [some u'] ++ [some u2']) H6 := by
        rw [up_up, up_up, up_up] at g6
        simpa only [List.append_assoc] using g6
      exact h'' (G.up (u1 + (u2 + (u3 + u4)))) F6 _ _ H6 u' u2' y' y2 R Q n.k e6.pop.pop.pop.pop e6.pop.top e6.top hy2 k
theorem pt_chain3 {op op' op'' : CmpOp} {r r' r'' : R2} {ta tb tc td : TE} (ho : OpR X (compareOp op) r) (ho' : OpR X (compareOp op') r') (ho'' : OpR X (compareOp op'') r'') (ha : PE X a ta) (hb : PE X b tb) (hc : PE X c tc) (hd : PE X d td)
    (hm : lastMarks [op, op', op''] [b, c, d] = false := by with_unfolding_all rfl) : PT X (.Compare a [op, op', op''] [b, c, d] pos) (tTest (tChain3 r r' r'' ta tb tc td)) := by
  refine ⟨fun pins s σ H Q I h => ?_⟩
  refine isTrue_chain (thn (ha.run pins s σ H _ I h) fun v s1 ⟨x, H1, I1, r1, q1⟩ => test_link (thn (hb.run pins s1 σ H1 _ I1 q1) fun u s2 ⟨y, H2, I2, r2, q2⟩ =>
    thn (ho pins s2 σ H2 x y v u _ I2 r1 r2 q2) fun d3 s3 ⟨z, H3, I3, r3, k, e, q3⟩ => ?_)) hm
  subst e
  cases r3
  refine wpAny_truthy_bool ?_
  cases k with
  | false =>
    obtain ⟨k', e', q'⟩ := q3
    cases e'
    exact ite_ff ⟨H3, I3, q'⟩
  | true =>
    refine ite_tt (test_link (thn (hc.run pins s3 σ H3 _ I3 q3) fun u' s4 ⟨y2, H4, I4, r4, q4⟩ => thn (ho' pins s4 σ H4 y y2 u u' _ I4 r2 r4 q4) fun d5 s5 ⟨z2, H5, I5, r5, k2, e2, q5⟩ => ?_))
    subst e2
    cases r5
    refine wpAny_truthy_bool ?_
    cases k2 with
    | false =>
      obtain ⟨k', e', q'⟩ := q5
      cases e'
      exact ite_ff ⟨H5, I5, q'⟩
    | true =>
      refine ite_tt (test_last (thn (hd.run pins s5 σ H5 _ I5 q5) fun w' s6 ⟨z', H6, I6, r6, q6⟩ => thn (ho'' pins s6 σ H6 y2 z' u' w' _ I6 r4 r6 q6) fun d7 s7 ⟨z3, H7, I7, r7, k', e', q'⟩ => ?_))
      subst e'
      cases r7
      exact wpAny_truthy_bool ⟨H7, I7, q'⟩
theorem oEq_bool {neg : Bool} : ∀ x y R, oEq neg x y R → oEq neg x y fun z => R z ∧ ∃ k, z = .d (.bool k) := by
  intro x y R h
  unfold oEq at h ⊢
  cases e1 : x.pd with
  | none => rw [e1] at h; exact h.elim
  | some p =>
    cases e2 : y.pd with
    | none =>
      rw [e1, e2] at h
      cases p <;> exact h.elim
    | some q =>
      rw [e1, e2] at h
      cases p <;> cases q <;> first
        | exact ⟨h, _, rfl⟩
        | exact ⟨h.1, h.2.1, h.2.2, _, rfl⟩
theorem de_chE (cx : CtxU X) (ha : DE X W a ma u1) (hb : DE X W b mb u2) (hc : DE X W c mc u3) (hm : lastMarks [.Eq, .Eq] [b, c] = false := by with_unfolding_all rfl) : DE X W (.Compare a [.Eq, .Eq] [b, c] pos) (mChain (oEq false) (oEq false) ma mb mc) (u1 + (u2 + u3)) :=
  ⟨PE.imp (pe_chain (op_eqB cx.u64) (op_eqB cx.u64) ha.pe hb.pe hc.pe hm) fun σ H Q q => chain_lift o2_eq o2_eq oEq_bool σ H Q q⟩
theorem de_ch3 {op op' op'' : CmpOp} {f f' f'' : Int → Int → Bool} (h : OpR X (compareOp op) (rI0 fun i j => .bl (f i j))) (h' : OpR X (compareOp op') (rI0 fun i j => .bl (f' i j))) (h'' : OpR X (compareOp op'') (rI0 fun i j => .bl (f'' i j))) (ha : DE X W a ma u1) (hb : DE X W b mb u2) (hc : DE X W c mc u3) (hd : DE X W d md u4)
    (hm : lastMarks [op, op', op''] [b, c, d] = false := by with_unfolding_all rfl) : DE X W (.Compare a [op, op', op''] [b, c, d] pos) (mChain3 (oC f) (oC f') (oC f'') ma mb mc md) (u1 + (u2 + (u3 + u4))) :=
  ⟨PE.imp (pe_chain3 h h' h'' ha.pe hb.pe hc.pe hd.pe hm) fun σ H Q q => chain3_lift o2_C o2_C o2_C oC_bool oC_bool σ H Q q⟩
theorem dt_ch3 {op op' op'' : CmpOp} {f f' f'' : Int → Int → Bool} (h : OpR X (compareOp op) (rI0 fun i j => .bl (f i j))) (h' : OpR X (compareOp op') (rI0 fun i j => .bl (f' i j))) (h'' : OpR X (compareOp op'') (rI0 fun i j => .bl (f'' i j))) (ha : DE X W a ma u1) (hb : DE X W b mb u2) (hc : DE X W c mc u3) (hd : DE X W d md u4)
    (hm : lastMarks [op, op', op''] [b, c, d] = false := by with_unfolding_all rfl) : DT X W (.Compare a [op, op', op''] [b, c, d] pos) (mB (mChain3 (oC f) (oC f') (oC f'') ma mb mc md)) (u1 + (u2 + (u3 + u4))) :=
  ⟨PT.imp (pt_chain3 h h' h'' ha.pe hb.pe hc.pe hd.pe hm) fun σ H Q q => chain3_lift o2_C o2_C o2_C oC_bool oC_bool σ H _ (liftT_of σ H Q q)⟩
theorem dt_chE (cx : CtxU X) (ha : DE X W a ma u1) (hb : DE X W b mb u2) (hc : DE X W c mc u3) (hm : lastMarks [.Eq, .Eq] [b, c] = false := by with_unfolding_all rfl) : DT X W (.Compare a [.Eq, .Eq] [b, c] pos) (mB (mChain (oEq false) (oEq false) ma mb mc)) (u1 + (u2 + u3)) :=
  ⟨PT.imp (pt_chain (op_eqB cx.u64) (op_eqB cx.u64) ha.pe hb.pe hc.pe hm) fun σ H Q q => chain_lift o2_eq o2_eq oEq_bool σ H _ (liftT_of σ H Q q)⟩
end
end DL

namespace DL
open PySem PySem.Spec L2
/-! ## stretches of both sides at once -/
def hitB (l : SRow) (rt : Bool) (s k : Nat) : Bool := if rt then decide (pl l s < pl l k) && decide (pl l k ≤ pl l s + ht l s) else decide (pl l s - ht l s ≤ pl l k) && decide (pl l k < pl l s)
theorem hitB_ok {l : SRow} {rt : Bool} {s k : Nat} : hitB l rt s k = true ↔ Hit l rt s k := by
  unfold hitB Hit
  cases rt <;> simp
def rtOf (x : Str) : Bool := decide (x = "right")
theorem rtL : rtOf "left" = false := by decide +kernel
theorem rtR : rtOf "right" = true := by decide +kernel
noncomputable def loOf (l : SRow) (rt : Bool) (s : Nat) : Nat := if rt then s else startOf l s
noncomputable def hiOf (l : SRow) (rt : Bool) (s : Nat) : Nat := if rt then endOf l s else s
theorem falls_ok {l : SRow} (I : Inc l) (rt : Bool) {s : Nat} (h : s < l.length) : Falls l rt s (loOf l rt s) (hiOf l rt s) := by
  unfold Falls loOf hiOf
  cases rt with
  | true => exact ⟨rfl, endOf_ok I h⟩
  | false => exact ⟨rfl, startOf_ok I h⟩
/-- each stone that falls is the pushed one or is hit by one that falls -/
theorem Falls.by {l : SRow} (I : Inc l) {rt : Bool} {s lo hi j : Nat} (h : Falls l rt s lo hi) (h1 : lo ≤ j) (h2 : j ≤ hi) : j = s ∨ ∃ k, lo ≤ k ∧ k ≤ hi ∧ Hit l rt k j := by
  have hb := h.bd
  unfold Falls at h
  cases rt with
  | true =>
    obtain ⟨rfl, h⟩ := h
    rcases Nat.eq_or_lt_of_le h1 with q | q
    · exact .inl q.symm
    · obtain ⟨k, a, b, c⟩ := h.ch j q h2
      exact .inr ⟨k, a, by omega, I.inc _ _ b (by omega), c⟩
  | false =>
    obtain ⟨rfl, h⟩ := h
    rcases Nat.eq_or_lt_of_le h2 with q | q
    · exact .inl q
    · obtain ⟨k, a, b, c⟩ := h.ch j h1 q
      exact .inr ⟨k, by omega, b, c, I.inc _ _ a (by omega)⟩
/-- a stretch within a stretch -/
theorem Falls.nest {l : SRow} (I : Inc l) {rt : Bool} {s lo hi k lo' hi' : Nat} (h : Falls l rt s lo hi) (h1 : lo ≤ k) (h2 : k ≤ hi) (h' : Falls l rt k lo' hi') : lo ≤ lo' ∧ hi' ≤ hi := by
  have hb := h'.bd
  have all := Falls.all I h' (fun j => lo ≤ j ∧ j ≤ hi) ⟨h1, h2⟩ fun k' a b p j hj hh => h.hit I p.1 p.2 hj hh
  exact ⟨(all lo' (Nat.le_refl _) (by omega)).1, (all hi' (by omega) (Nat.le_refl _)).2⟩
/-- higher stones fell no fewer -/
theorem end_grows {l l' : SRow} (hl : l'.length = l.length) (hp : ∀ i, i < l.length → pl l' i = pl l i) (hh : ∀ i, i < l.length → ht l i ≤ ht l' i) {s e e' : Nat} (h : IsEnd l s e) (h' : IsEnd l' s e') : e ≤ e' := by
  have a := h.lt
  have b := h'.lt
  have c := h'.le
  rcases Nat.lt_or_ge e' e with q | q
  · obtain ⟨k, k1, k2, k3⟩ := h.ch (e' + 1) (by omega) (by omega)
    have := h'.st (by omega) k k1 (by omega)
    rw [hp k (by omega), hp (e' + 1) (by omega)] at this
    have := hh k (by omega)
    omega
  · exact q
theorem start_grows {l l' : SRow} (hl : l'.length = l.length) (hp : ∀ i, i < l.length → pl l' i = pl l i) (hh : ∀ i, i < l.length → ht l i ≤ ht l' i) {s m m' : Nat} (h : IsStart l s m) (h' : IsStart l' s m') : m' ≤ m := by
  have a := h.lt
  have a2 := h.le
  have c := h'.le
  rcases Nat.lt_or_ge m m' with q | q
  · obtain ⟨k, k1, k2, k3⟩ := h.ch (m' - 1) (by omega) (by omega)
    have := h'.st (by omega) k (by omega) k2
    rw [hp k (by omega), hp (m' - 1) (by omega)] at this
    have := hh k (by omega)
    omega
  · exact q
/-! ## stretches as data -/
noncomputable def pairD (l : SRow) (rt : Bool) (s : Nat) : PyData := .tuple [.int (loOf l rt s : Nat), .int (hiOf l rt s : Nat)]
/-- what comprehensions do with an item -/
def onInt (f : Int → Option PyData) : PyData → Option PyData
  | .int i => f i
  | _ => none
def onPair (f : Int → Int → Option PyData) : PyData → Option PyData
  | .tuple [.int a, .int b] => f a b
  | _ => none
theorem filt (n : Nat) (p : Nat → Bool) : (rangeD 0 n).filterMap (onInt fun i => if p i.toNat then some (natD i.toNat) else none) = ((List.range n).filter p).map natD := by
  unfold rangeD
  rw [List.filterMap_map]
  generalize List.range n = r
  induction r with
  | nil => rfl
  | cons a r ih =>
    simp only [List.filterMap_cons, Function.comp, onInt, Int.zero_add, Int.toNat_natCast, List.filter_cons] at ih ⊢
    rw [ih]
    cases p a <;> simp
theorem ranged (lo : Int) (n : Nat) (f : Int → PyData) : (rangeD lo n).filterMap (onInt fun i => some (f i)) = (List.range n).map fun k => f (lo + (k : Nat)) := by
  unfold rangeD
  rw [List.filterMap_map]
  generalize List.range n = r
  induction r with
  | nil => rfl
  | cons a r ih =>
    simp only [List.filterMap_cons, Function.comp, onInt, List.map_cons] at ih ⊢
    rw [ih]
theorem paired (l : SRow) (f : Int → Int → PyData) : (l.map stD).filterMap (onPair fun a b => some (f a b)) = l.map fun p => f p.1 p.2 := by
  induction l with
  | nil => rfl
  | cons a r ih =>
    simp only [List.filterMap_cons, onPair, stD, List.map_cons] at ih ⊢
    rw [ih]
theorem inted (ns : List Int) (f : Int → Option PyData) : (ns.map PyData.int).filterMap (onInt f) = ns.filterMap f := by
  rw [List.filterMap_map]
  rfl
theorem eqv_lr : PyData.eqv (.str "left") (.str "right") = false := by decide +kernel
theorem eqv_rl : PyData.eqv (.str "right") (.str "left") = false := by decide +kernel
theorem eqv_ll : PyData.eqv (.str "left") (.str "left") = true := by decide +kernel
theorem eqv_rr : PyData.eqv (.str "right") (.str "right") = true := by decide +kernel
theorem eqv_intL {a b : Int} {xs ys : List PyData} : PyData.eqvAll (.int a :: xs) (.int b :: ys) = (decide (a = b) && PyData.eqvAll xs ys) := by
  simp only [PyData.eqvAll, eqv_ii]
mutual
theorem eqv_rfl : ∀ d : PyData, d.canLay0 = true → PyData.eqv d d = true
  | .none, _ => by simp [PyData.eqv]
  | .bool b, _ => by cases b <;> simp [PyData.eqv]
  | .int i, _ => by simp [PyData.eqv]
  | .str x, _ => by simp [PyData.eqv]
  | .list xs, h => by
    simp only [PyData.eqv]
    exact eqvAll_rfl xs (by simpa [PyData.canLay0] using h)
  | .tuple xs, h => by
    simp only [PyData.eqv]
    exact eqvAll_rfl xs (by simpa [PyData.canLay0] using h)
  | .dict _, h => by simp [PyData.canLay0] at h
theorem eqvAll_rfl : ∀ xs : List PyData, PyData.canLayAll0 xs = true → PyData.eqvAll xs xs = true
  | [], _ => by simp [PyData.eqvAll]
  | x :: xs, h => by
    simp only [PyData.canLayAll0, Bool.and_eq_true] at h
    simp only [PyData.eqvAll, eqv_rfl x h.1, eqvAll_rfl xs h.2, Bool.and_self]
end
theorem sz_nat {n : Nat} (h : n ≤ 1000000) : Sz (.int (n : Nat)) 0 1922 := Sz.int' ⟨by omega, by omega⟩
theorem sz_two {a b : Nat} (ha : a ≤ 1000000) (hb : b ≤ 1000000) : Sz (.tuple [.int (a : Nat), .int (b : Nat)]) 1 (4 + 2 * (1922 + 2)) := Sz.pair (sz_nat ha) (sz_nat hb)
theorem sz_nats {ks : List Nat} {n : Nat} (h : ∀ k ∈ ks, k ≤ 1000000) (hn : ks.length ≤ n) : Sz (.tuple (ks.map natD)) 1 (4 + n * (1922 + 2)) := by
  refine Sz.tup (fun x hx => ?_) (by rw [List.length_map]; exact hn)
  obtain ⟨k, hk, rfl⟩ := List.mem_map.mp hx
  exact sz_nat (h k hk)
theorem sz_natsL {ks : List Nat} {n : Nat} (h : ∀ k ∈ ks, k ≤ 1000000) (hn : ks.length ≤ n) : Sz (.list (ks.map natD)) 1 (4 + n * (1922 + 2)) := by
  refine Sz.lst (fun x hx => ?_) (by rw [List.length_map]; exact hn)
  obtain ⟨k, hk, rfl⟩ := List.mem_map.mp hx
  exact sz_nat (h k hk)
/-! ## a row, with and without one stone changed -/
theorem row_mem {l : SRow} {p : Int × Int} (hp : p ∈ l) : ∃ i, i < l.length ∧ pl l i = p.1 ∧ ht l i = p.2 := by
  obtain ⟨i, hi, e⟩ := List.mem_iff_getElem.mp hp
  refine ⟨i, hi, ?_, ?_⟩
  · unfold pl
    rw [List.getD_eq_getElem?_getD, List.getElem?_eq_getElem hi, e]
    rfl
  · unfold ht
    rw [List.getD_eq_getElem?_getD, List.getElem?_eq_getElem hi, e]
    rfl
theorem row_get {l : SRow} {i : Nat} (hi : i < l.length) : l[i]? = some (pl l i, ht l i) := by
  unfold pl ht
  rw [List.getD_eq_getElem?_getD, List.getElem?_eq_getElem hi]
  rfl
theorem pl_set {l : SRow} {i j : Nat} {p : Int × Int} (hi : i < l.length) : pl (l.set i p) j = if i = j then p.1 else pl l j := by
  unfold pl
  rw [List.getD_eq_getElem?_getD, List.getD_eq_getElem?_getD]
  by_cases h : i = j
  · subst h
    rw [List.getElem?_set_self hi, if_pos rfl]
    rfl
  · rw [List.getElem?_set_ne h, if_neg h]
theorem ht_set {l : SRow} {i j : Nat} {p : Int × Int} (hi : i < l.length) : ht (l.set i p) j = if i = j then p.2 else ht l j := by
  unfold ht
  rw [List.getD_eq_getElem?_getD, List.getD_eq_getElem?_getD]
  by_cases h : i = j
  · subst h
    rw [List.getElem?_set_self hi, if_pos rfl]
    rfl
  · rw [List.getElem?_set_ne h, if_neg h]
theorem set_cut {α : Type} {l : List α} {i : Nat} {p : α} (hi : i < l.length) : l.set i p = l.take i ++ p :: l.drop (i + 1) := by
  induction l generalizing i with
  | nil => simp at hi
  | cons a l ih =>
    cases i with
    | zero => simp
    | succ i => simp [ih (by simpa using hi)]
theorem cut_lo {α : Type} {f : α → PyData} {l : List α} {i : Nat} (hi : i ≤ l.length) : cutD (l.map f) none (some (i : Nat)) = (l.take i).map f := by
  unfold cutD
  have e1 : HT.sIx (l.map f).length 0 none = 0 := rfl
  have e2 : HT.sIx (l.map f).length (l.map f).length (some (i : Nat)) = i := by
    have q : ¬ ((i : Int) < 0) := by omega
    unfold HT.sIx
    simp [q]
    omega
  rw [e1, e2, List.drop_zero, Nat.sub_zero, List.map_take]
theorem cut_hi {α : Type} {f : α → PyData} {l : List α} {i : Nat} : cutD (l.map f) (some (i : Nat)) none = (l.drop i).map f := by
  unfold cutD
  have e2 : HT.sIx (l.map f).length (l.map f).length none = (l.map f).length := rfl
  have e1 : HT.sIx (l.map f).length 0 (some (i : Nat)) = min i l.length := by
    have q : ¬ ((i : Int) < 0) := by omega
    unfold HT.sIx
    simp [q]
  rw [e1, e2, List.map_drop]
  rcases Nat.le_total i l.length with h | h
  · rw [Nat.min_eq_left h, List.take_of_length_le (by simp)]
  · rw [Nat.min_eq_right h, List.take_of_length_le (by simp)]
    rw [List.drop_eq_nil_of_le (by simp), List.drop_eq_nil_of_le (by simp [h])]
end DL

namespace PySem
open PySem.AutoSeq1 (wpAny_loadPart')
theorem ext_tup (l : Addr) (items : Array Value) (n : Nat) (b : Addr) (items2 : Array Value) (n2 : Nat) (dd : Option Addr) (ss : Array (Option Value)) (hs0 : ¬(!items.isEmpty && Builtin.List.listTooLong (items.size + items2.size)) = true) (hs1 : items.size ≤ sizeLine) (hs2 : items.size + items2.size ≤ sizeLine + 1 := by seq_fits) :
    Meets (Builtin.«list.extend» ⟨[.ref l, .ref b], []⟩) (fun _ R s => s.heap.get? l = some { cls := .type "list", dict := none, data := .seq items n, slots := #[] } ∧ s.heap.get? b = some { cls := .type "tuple", dict := dd, data := .seq items2 n2, slots := ss } ∧ R (.ok (.ret Value.none)) { s with heap := s.heap.update l (Obj.mapSeq fun x => x ++ items2), toks := s.toks }) :=
  .of_wp fun prog w A R s h => by
    obtain ⟨hp, g, d, tk, os⟩ := s
    obtain ⟨hl, hb, h⟩ := h
    have f1 := AutoSeq1.idx_int
    have f2 := AutoSeq1.sub_tuple_tuple
    have f3 := AutoSeq1.sub_list_list
    have f4 := AutoSeq1.sub_tuple_list
    have f5 := AutoSeq1.sub_list_tuple
    have hz' : (items ++ items2).size ≤ sizeLine + 1 := by rw [Array.size_append]; exact hs2
    wp_walk using (wpAny_updateSeq hl rfl (hz := hs1) (_hz' := hz')), wpAny_loadPart' hl, wpAny_loadPart' hb
    exact ⟨_, rfl, h⟩
end PySem
namespace DL
open PySem PySem.Spec L2
/-! ## extend by a tuple -/
def rExtendT (K : PySem.W.Frag) : V → List V → Hp → VK → Prop := fun x vs H Q => ∃ l b xs zs, x = .ref l ∧ vs = [.ref b] ∧ H l = some (.lst xs) ∧ SqT K H b zs ∧ xs.length + zs.length ≤ sizeLine ∧ Q .non (upd H l (.lst (xs ++ zs)))
theorem mt_extendT {X : Cx} : MtM X "list.extend" (rExtendT X.K) := by
  intro pins s σ H x vs v us Q I rx rv h
  obtain ⟨l, b, xs, zs, rfl, rfl, hH, hB, hz, q⟩ := h
  cases rx
  obtain ⟨u, rfl, ru⟩ := rv.one
  cases ru
  obtain ⟨z, its, n, r, hl, e⟩ := I.lstM hH
  obtain ⟨its2, r2, ⟨o, e2, hc2, n2, hd2⟩, hz2⟩ := I.tuple hB
  have hl2 := r2.length
  obtain ⟨cls, dd, dat, ss⟩ := o
  cases hc2
  cases hd2
  have hsz : its.toArray.size + its2.toArray.size ≤ sizeLine := by rw [List.size_toArray, List.size_toArray]; omega
  have hlong : ¬ (!its.toArray.isEmpty && Builtin.List.listTooLong (its.toArray.size + its2.toArray.size)) = true := by
    rw [notLongL hsz, Bool.and_false]
    exact Bool.false_ne_true
  refine call_meets F.slot_list_extend ⟨_, e, rfl⟩ F.entry_list_extend (F.args_list_extend_2 _ _)
    (ext_tup l its.toArray n b its2.toArray n2 dd ss hlong (by rw [List.size_toArray]; omega) (by omega)) ⟨e, e2, ?_⟩
  refine ⟨.non, _, I.lset (its' := its ++ its2) hH e (by simp) (r.append r2) ?_, rfl, q⟩
  rw [List.length_append]
  omega
def uExtT : Mut := fun xs ds => match ds with
  | [.tuple zs] => if xs.length + zs.length ≤ sizeLine then some (.none, xs ++ zs) else none
  | _ => none
theorem mut_extT {K : PySem.W.Frag} : MutOk K (rExtendT K) uExtT := by
  intro F l ws xs vs ds H Q res xs' hF hl ha hv e k
  unfold uExtT at e
  split at e
  · rename_i zs
    cases hv with
    | cons h1 h2 =>
      cases h2
      cases h1 with
      | @tup b ys _ hb hy =>
        split at e
        · rename_i hz
          cases e
          exact ⟨l, b, ws, ys, rfl, rfl, hl, sqT_mono hF hb, by rw [ha.length, hy.length]; exact hz, k _ _ .non (ha.append hy)⟩
        · cases e
  · cases e
end DL

namespace DL
open PySem PySem.Spec L2
/-! ## while with draws, pop of a drawn place, sorted(set(..)) -/
def mWhileN (N : Nat) (t : MT) (b : MS) : MS := fun ex E δ => ∃ Wd : Nat → Env → Prop, (∃ n, n < N ∧ Wd n δ) ∧ ∀ n δ, Wd n δ → t ex δ fun c =>
  (c = true → b ex { nx := fun δ' => ∃ k, k < n ∧ Wd k δ', ct := fun δ' => ∃ k, k < n ∧ Wd k δ', bk := E.nx, rt := E.rt } δ) ∧ (c = false → E.nx δ)
section
variable {X : Cx} {W : WC} {u1 u2 : Nat} {c e : Expr} {es : List Expr} {pos : Pos} {mt : MT} {m : MS} {mas : MA}
theorem ds_whileN (N : Nat) {body : List Stmt} (hp : PassesOwn (model X.prog X.w) X.A X.env X.xe) (hc : DT X W c mt u1) (hb : DSs X W body m u2) (hu1 : u1 = 0 := by rfl) : DS X W (.While c body [] pos) (mWhileN N mt m) (N * u2) := ⟨PS.imp (ps_while hp hc.pt hb.pss) fun D σ H q => by
  obtain ⟨ex, G, F, δ, τ, ts, E, n, nb, eo, Wd, ⟨n0, hn0, w0⟩, turn⟩ := q
  subst hu1
  have first : 0 + (n0 + 1) * u2 ≤ N * u2 := by
    rw [Nat.zero_add]
    exact Nat.mul_le_mul_right u2 hn0
  refine ⟨fun k σ' H' => ∃ b F' δ', b + (k + 1) * u2 ≤ N * u2 ∧ δ'.length = σ'.length ∧ Good (G.up b) F' (δ' ++ τ) (σ' ++ ts) H' ∧ NoBor (δ' ++ τ) ∧ Wd k δ', ⟨n0, 0, F, δ, first, n.l1, n.g0.later 0, nb, w0⟩, ?_⟩
  rintro k σ1 H1 ⟨b, F1, δ1, hb1, l1, g1, nb1, w1⟩
  have more : (k + 1) * u2 = k * u2 + u2 := Nat.succ_mul k u2
  have n1 : Now X.K X.mg W 0 ex (G.up b) F1 δ1 σ1 τ ts [] [] H1 := n.to0 (by omega) l1 g1
  refine ⟨ex, G.up b, F1, δ1, τ, ts, [], [], _, n1, turn k δ1 w1, fun c hc F2 H2 g2 => ?_⟩
  have g3 : Good (G.up b) F2 (δ1 ++ τ) (σ1 ++ ts) H2 := by
    rw [up_up, Nat.add_zero] at g2
    simpa using g2
  cases c with
  | false =>
    show if false = true then _ else _
    rw [if_neg Bool.false_ne_true]
    exact eo.nx δ1 (hc.2 rfl) b σ1 F2 H2 (by omega) l1 nb1 g3
  | true =>
    show if true = true then _ else _
    rw [if_pos rfl]
    refine ⟨fun σ' H' => ∃ j, j < k ∧ ∃ b F' δ', b + (j + 1) * u2 ≤ N * u2 ∧ δ'.length = σ'.length ∧ Good (G.up b) F' (δ' ++ τ) (σ' ++ ts) H' ∧ NoBor (δ' ++ τ) ∧ Wd j δ', fun σ' H' ⟨j, hj, h⟩ => ⟨j, hj, h⟩, ?_⟩
    have step : ∀ δ', (∃ j, j < k ∧ Wd j δ') → ∀ b' σ' F' H', b' ≤ u2 → δ'.length = σ'.length → NoBor (δ' ++ τ) → Good ((G.up b).up b') F' (δ' ++ τ) (σ' ++ ts) H' → ∃ j, j < k ∧ ∃ b F' δ', b + (j + 1) * u2 ≤ N * u2 ∧ δ'.length = σ'.length ∧ Good (G.up b) F' (δ' ++ τ) (σ' ++ ts) H' ∧ NoBor (δ' ++ τ) ∧ Wd j δ' := fun δ' ⟨j, hj, hw⟩ b' σ' F' H' hb' l' nb' g' =>
      ⟨j, hj, b + b', F', δ', by have := Nat.mul_le_mul_right u2 (show j + 1 ≤ k from hj); omega, l', by rw [up_up] at g'; exact g', nb', hw⟩
    exact ⟨ex, G.up b, F2, δ1, τ, ts, { nx := fun δ' => ∃ j, j < k ∧ Wd j δ', ct := fun δ' => ∃ j, j < k ∧ Wd j δ', bk := E.nx, rt := E.rt }, n.to0 (by omega) l1 g3, nb1,
      ⟨step, fun δ h b' σ F H h1 h2 h3 h4 => eo.nx δ h (b + b') σ F H (by omega) h2 h3 (by rw [← up_up]; exact h4), step, fun r h ha b' v F H h1 h4 => eo.rt r h ha (b + b') v F H (by omega) (by rw [← up_up]; exact h4)⟩, hc.1 rfl⟩⟩
variable {x : Str} {p1 ap cp : Pos}
/-- y = x.m(e, ..) -/
theorem ds_mutTo {i j : Nat} {o : Mut} {r : V → List V → Hp → VK → Prop} {name y : Str} {id : String} {p2 : Pos} (slot : Slot "list" name id) (hty : typeOf (.builtin id) = pure (.type "method_descriptor")) (hm : MtR X id r) (ho : MutOk X.K r o) (hv : PE X (.Name x p1) (tVar i)) (ha : DA X W (e :: es) mas u1)
    (hN : X.N.Nodup) (hj : X.N[j]? = some y) (hy : Loc X.env.scope y)
    (hbase : attributeBase (.Name x p1) name X.env (eval (.Name x p1) X.env) = eval (.Name x p1) X.env := by rfl)
    (hfew : ((backTo cp (starEach (e :: es) X.env)).all (fun x => !x.1) && (backToKw cp (keywordEach [] X.env)).all (fun x => x.1.isSome)
      && decide ((e :: es).length + ([] : List Keyword).length + (if ([] : List Keyword).isEmpty then 0 else 1) < 30)) = true := by rfl)
    (hline : (ap.endLine == cp.line) = true := by rfl) (hs : starEach (e :: es) X.env = (false, eval e X.env) :: starEach es X.env := by rfl) (hplain : (backTo cp (starEach es X.env)).any (·.1) = false := by rfl)
    (hsw : swapsWith (.Call (.Attribute (.Name x p1) name ap) (e :: es) [] cp) (some (.Name y p2)) pos.line X.env = pure false := by rfl) (hf : X.fn y = true ∨ X.env.scope.names.lookup y = some .local := by first | exact .inl rfl | exact .inr rfl | assumption) :
    DS X W (.Assign [.Name y p2] (.Call (.Attribute (.Name x p1) name ap) (e :: es) [] cp) pos) (mMutTo j i o mas) u1 :=
  ⟨PS.imp (ps_set hN hj hy (pe_bm PySem.F.plainAttrs_list slot hty hm hv ha.pa hbase hfew hline hs hplain) hsw hf) fun D σ H q => by
    obtain ⟨ex, G, F, δ, τ, ts, E, n, nb, eo, h⟩ := q
    exact bm_lift (D := D) (Q := fun u H1 => D.nx (σ.set j (some u)) H1) ho n nb h (set_end n.l1 eo)⟩
/-- set(t), t a tuple of ints -/
def rSetT (K : PySem.W.Frag) (w : World) : List V → Hp → VK → Prop := fun vs H Q => ∃ (l : Addr) (ns : List Int), vs = [V.ref l] ∧ SqT K H l (ns.map V.int) ∧ ns.length < 64 ∧ ∀ a c, H a = none → c ≤ ns.length → Q (.ref a) (upd H a (SetO w a (fun j => decide (j ∈ ns)) c))
theorem cr_setT (hc : X.calm = true) : CallR X (.type "set") (rSetT X.K X.w) := by
  intro pins s σ H vs us Q I r h
  obtain ⟨l, ns, rfl, hq, h64, q⟩ := h
  rw [Vals.ref1 r]
  obtain ⟨its, rv, pl, hz⟩ := I.tuple hq
  refine call_set_tupI ns (I.ok.hd hc) pl (by simpa using rv.ints) (by unfold scanBound; omega) fun h' tk c R hcn k => ?_
  exact ⟨.ref s.heap.objs.size, upd H s.heap.objs.size (SetO X.w s.heap.objs.size (fun j => decide (j ∈ ns)) c), I.laid (t' := tk) k (Nat.le_refl _) (setO_new R), rfl, q _ c (I.hok.fresh (Nat.le_refl _)) hcn⟩
def oSortSet : D1 := fun x R => match x with
  | .d (.tuple xs) => match intsOf xs with
    | some ns => ns.length < 64 ∧ ∀ ms : List Int, ms.Pairwise (· < ·) → (∀ k, k ∈ ms ↔ k ∈ ns) → R (.own (ms.map .int))
    | none => False
  | _ => False
theorem de_sortSetT {p p2 q : Pos} (hc : X.calm = true) (hg : Gl X "sorted") (hm : X.mg "sorted" = none) (hg2 : Gl X "set") (hm2 : X.mg "set" = none) (ha : DA X W [e] mas u1)
    (he2 : starEach [e] X.env = (false, eval e X.env) :: starEach [] X.env := by rfl) (hpl : (backTo pos (starEach [] X.env)).any (·.1) = false := by rfl) :
    DE X W (.Call (.Name "sorted" p) [.Call (.Name "set" p2) [e] [] q] [] pos) (mCB (o1 oSortSet) mas) u1 :=
  ⟨PE.imp (pe_callB (cr_sortedSet hc) hg hm (by decide +kernel) (pa_cons (pe_callTy (cr_setT hc) hg2 hm2 (by decide +kernel) ha.pa (by decide) (by decide) he2 (by rfl)) pa_nil) (by decide) (by decide) (by rfl) hpl) fun σ H Q q => by
    have h := args_lift (X := X) (W := W) (u := u1) (mas := mas) (r := fun vs H Q => rSetT X.K X.w vs H fun x H1 => rSortedSet X.w [x] H1 Q) (o := o1 oSortSet) (on_1 fun G F δ σ H v x R Q hK g hx h k => by
      unfold oSortSet at h
      split at h
      · rename_i xs
        split at h
        · rename_i ns hns
          obtain ⟨l, vs, rfl, h1, h2⟩ := tup_of hx g.fh
          rw [intsOf_eq hns] at h2
          rw [h2.ints, hK] at h1
          refine ⟨l, ns, rfl, h1, h.1, fun a c hn hcn => ⟨a, _, c, rfl, upd_same, by omega, fun ms p hp hs hl hpn => ?_⟩⟩
          exact k _ (h.2 ms hp fun j => by rw [hs j]; exact decide_eq_true_iff) _ _ _ ((g.grow hn).newO hpn (atL_ints _))
        · exact h.elim
      · exact h.elim) σ H Q q
    exact h⟩
end
theorem lay_ints : ∀ ns : List Int, PyData.canLayAll0 (ns.map PyData.int) = true
  | [] => by simp [PyData.canLayAll0]
  | n :: ns => by
    simp only [List.map_cons, PyData.canLayAll0, lay_ints ns, Bool.and_true]
    simp [PyData.canLay0]
theorem shaped_intsT (ns : List Int) : SeqAt.shaped (.tuple (ns.map PyData.int)) = true := by
  have h := shaped_ints ns
  simp only [SeqAt.shaped, PyData.canLay0, PyData.depth] at h ⊢
  exact h
theorem eqv_intsL (ns : List Int) : PyData.eqv (.list (ns.map PyData.int)) (.list (ns.map PyData.int)) = true := eqv_rfl _ (by rw [PyData.canLay0]; exact lay_ints ns)
theorem eqv_intsT (ns : List Int) : PyData.eqv (.tuple (ns.map PyData.int)) (.tuple (ns.map PyData.int)) = true := eqv_rfl _ (by rw [PyData.canLay0]; exact lay_ints ns)
theorem rangeD_ints (lo : Int) (n : Nat) : rangeD lo n = ((List.range n).map fun k => lo + (k : Nat)).map PyData.int := by
  unfold rangeD
  rw [List.map_map]
  rfl
theorem seqIx {i n : Nat} (h : i < n) : seqIndex? (i : Nat) n = some i := by
  have q : ¬ ((i : Int) < 0) := by omega
  simp only [seqIndex?, if_neg q]
  rw [if_pos (by simp; omega)]
  rfl
theorem erase_map {α β : Type} {f : α → β} : ∀ {l : List α} {i : Nat}, (l.map f).eraseIdx i = (l.eraseIdx i).map f
  | [], i => by simp
  | a :: l, 0 => by simp
  | a :: l, i + 1 => by
    simp only [List.map_cons, List.eraseIdx_cons_succ]
    rw [erase_map]
theorem erase_perm {α : Type} : ∀ {l : List α} {i : Nat} (h : i < l.length), (l[i] :: l.eraseIdx i).Perm l
  | a :: l, 0, _ => by simp
  | a :: l, i + 1, h => by
    simp only [List.getElem_cons_succ, List.eraseIdx_cons_succ]
    exact (List.Perm.swap _ _ _).trans (List.Perm.cons a (erase_perm (by simpa using h)))
theorem ix63 {i : Nat} (h : i < 1000000) : -(2 ^ 63 : Int) ≤ (i : Nat) ∧ ((i : Nat) : Int) < 2 ^ 63 :=
  ⟨Int.le_trans (show -(2 ^ 63 : Int) ≤ 0 by decide) (by omega), Int.lt_of_lt_of_le (show ((i : Nat) : Int) < 1000000 by omega) (by decide)⟩
theorem popAt_ok {xs : List PyData} {i : Nat} (h : i < xs.length) (hz : xs.length ≤ 1000000) : uPopAt xs [.int (i : Nat)] = some (xs[i], xs.eraseIdx i) := by
  unfold uPopAt
  simp only [seqIx h, List.getElem?_eq_getElem h]
  rw [if_pos (ix63 (by omega))]
end DL

namespace DL
open PySem PySem.Spec L2
/-! ## data that holds dicts: read, shown -/
theorem key_reads {h : Heap} {k : Key} {u : Value} (e : keyIs k u = true) : Reads h u (keyD k) [] := by
  rcases keyIs_shape e with ⟨i, t, rfl, rfl⟩ | ⟨x, t, rfl, rfl⟩
  · exact Reads.int i t
  · exact Reads.str x t
section
open PySem.P3
variable {P : Program} {w : World} {h : Heap}
/-- v is the datum d and has its text -/
def Sh (P : Program) (w : World) (h : Heap) (u : Value) (d : PyData) : Prop := ∃ as bs, Reads h u d as ∧ ReadAtMost h d.depth bs ∧ ReprK P w bs h d.depth u d.shown
def ShA (P : Program) (w : World) (h : Heap) (us : List Value) (ds : List PyData) : Prop := ∃ as bs, ReadsAll h us ds as ∧ ReadAtMost h (PyData.depthAll ds) bs ∧ ReprAllK P w bs h (PyData.depthAll ds) us (PyData.shownAll ds)
theorem rk_key {k : Key} {u : Value} (e : keyIs k u = true) (hs : (keyD k).showable = true) (hz : (keyD k).shown.length ≤ sizeLine) : Sh P w h u (keyD k) := by
  refine ⟨[], [], key_reads e, fun _ z => (nomatch z), ?_⟩
  rcases keyIs_shape e with ⟨i, t, rfl, rfl⟩ | ⟨x, t, rfl, rfl⟩
  · have q : ReprK P w [] h 0 (.int i t) (PyData.shown (.int i)) := by
      simp only [PyData.shown]
      exact .of_is (ReprIs.int t (by simpa [keyD, PyData.showable] using hs)) _ _ _
    exact q
  · have q : ReprK P w [] h 0 (.str x t) (PyData.shown (.str x)) := by
      simp only [PyData.shown]
      exact .of_is (ReprIs.str x t (by simpa only [keyD, PyData.shown] using hz)) _ _ _
    exact q
theorem sha_cons {u : Value} {us : List Value} {d : PyData} {ds : List PyData} (h1 : Sh P w h u d) (h2 : ShA P w h us ds) : ShA P w h (u :: us) (d :: ds) := by
  obtain ⟨as, bs, r1, m1, k1⟩ := h1
  obtain ⟨cs, es, r2, m2, k2⟩ := h2
  refine ⟨_, bs ++ es, ReadsAll.cons r1 r2, ?_, ?_⟩
  · rw [PyData.depthAll]
    exact (m1.mono (Nat.le_max_left _ _)).append (m2.mono (Nat.le_max_right _ _))
  · rw [PyData.depthAll, PyData.shownAll]
    have q1 := (k1.more fun b hb => (List.mem_append_left es hb : b ∈ bs ++ es)).level_le (Nat.le_max_left d.depth (PyData.depthAll ds))
    have q2 := k2.more_le (fun b hb => (List.mem_append_right bs hb : b ∈ bs ++ es)) (Nat.le_max_right d.depth (PyData.depthAll ds))
    exact ReprAllK.cons q1 q2
theorem sha_nil : ShA P w h [] [] := ⟨[], [], ReadsAll.nil, fun _ z => (nomatch z), by rw [PyData.shownAll]; exact ReprAllK.nil⟩
theorem sh_list {a : Addr} {o : Obj} {n : Nat} {us : List Value} {ds : List PyData} (ho : h.get? a = some o) (hc : o.cls = .type "list") (hd : o.data = .seq us.toArray n) (q : ShA P w h us ds) : Sh P w h (.ref a) (.list ds) := by
  obtain ⟨as, bs, r, m, k⟩ := q
  have rr : Reads h (.ref a) (.list ds) _ := Reads.list ho hc hd r
  have dp : (PyData.list ds).depth = PyData.depthAll ds + 1 := by simp only [PyData.depth]
  have na : a ∉ bs := not_mem_of_deeper rr (by omega) m
  refine ⟨_, a :: bs, rr, ReadAtMost.cons rr (Nat.le_refl _) (m.mono (by omega)), ?_⟩
  rw [dp]
  simp only [PyData.shown]
  cases us with
  | nil =>
    cases r
    simp only [PyData.shownAll, listText_nil]
    exact ReprK.listEmpty ho hc hd
  | cons x l => exact ReprK.list ho hc hd na (by simpa using k.length_eq) fun i y e => k.item i y (by simpa using e)
theorem sh_tuple {a : Addr} {o : Obj} {n : Nat} {us : List Value} {ds : List PyData} (ho : h.get? a = some o) (hc : o.cls = .type "tuple") (hd : o.data = .seq us.toArray n) (q : ShA P w h us ds) : Sh P w h (.ref a) (.tuple ds) := by
  obtain ⟨as, bs, r, m, k⟩ := q
  have rr : Reads h (.ref a) (.tuple ds) _ := Reads.tuple ho hc hd r
  have dp : (PyData.tuple ds).depth = PyData.depthAll ds + 1 := by simp only [PyData.depth]
  have na : a ∉ bs := not_mem_of_deeper rr (by omega) m
  refine ⟨_, a :: bs, rr, ReadAtMost.cons rr (Nat.le_refl _) (m.mono (by omega)), ?_⟩
  rw [dp]
  simp only [PyData.shown]
  exact ReprK.tuple ho hc hd na k
theorem sh_dict {a : Addr} {o : Obj} {n : Nat} {es : Array DictEntry} {ds : List (PyData × PyData)} (ho : h.get? a = some o) (hc : o.cls = .type "dict") (hd : o.data = .dict es n) (hsm : (a == sysModules) = false)
    (q1 : ShA P w h (es.toList.map (·.key)) (ds.map (·.1))) (q2 : ShA P w h (es.toList.map (·.val)) (ds.map (·.2))) : Sh P w h (.ref a) (.dict ds) := by
  obtain ⟨as, b1, r1, m1, k1⟩ := q1
  obtain ⟨cs, b2, r2, m2, k2⟩ := q2
  have rr : Reads h (.ref a) (.dict ds) _ := Reads.dict ho hc hd r1 r2
  have dp : (PyData.dict ds).depth = PyData.depthKv ds + 1 := by simp only [PyData.depth]
  have m : ReadAtMost h (PyData.depthKv ds) (b1 ++ b2) := (m1.mono (PyData.depthAll_keys_le ds)).append (m2.mono (PyData.depthAll_vals_le ds))
  have na : a ∉ b1 ++ b2 := not_mem_of_deeper rr (by omega) m
  refine ⟨_, a :: (b1 ++ b2), rr, ReadAtMost.cons rr (Nat.le_refl _) (m.mono (by omega)), ?_⟩
  rw [dp]
  simp only [PyData.shown, PyData.shownKv_eq]
  have z1 := k1.more_le (fun b hb => (List.mem_append_left b2 hb : b ∈ b1 ++ b2)) (PyData.depthAll_keys_le ds)
  have z2 := k2.more_le (fun b hb => (List.mem_append_right b1 hb : b ∈ b1 ++ b2)) (PyData.depthAll_vals_le ds)
  exact ReprK.dict ho hc hd hsm na (ReprEntriesK.of_two es.toList _ _ z1 z2)
variable {A : Around} {E : Value → Shared → Prop} {s : Shared} {Q : Value → Shared → Prop}
theorem top_list {a : Addr} {o : Obj} {n : Nat} {us : List Value} {ds : List PyData} (ho : s.heap.get? a = some o) (hc : o.cls = .type "list") (hd : o.data = .seq us.toArray n) (q : ShA P w s.heap us ds) (hg : A.guards = some []) (hu : A.units + ((PyData.list ds).depth + 1) < cLine)
    (hz : (PyData.list ds).shown.length ≤ sizeLine) (hQ : ∀ h' u tk, (∀ b o, s.heap.get? b = some o → h'.get? b = some o) → Q (.str (PyData.list ds).shown u) { s with heap := h', toks := tk }) : wpAny (model P w) A (call (.builtin "repr") [.ref a]) Q E s := by
  obtain ⟨as, bs, r, m, k⟩ := q
  have rr : Reads s.heap (.ref a) (.list ds) _ := Reads.list ho hc hd r
  have dp : (PyData.list ds).depth = PyData.depthAll ds + 1 := by simp only [PyData.depth]
  have na : a ∉ bs := not_mem_of_deeper rr (by omega) m
  have un : A.in1.units + (PyData.depthAll ds + 1) < cLine := by
    show A.units + 1 + (PyData.depthAll ds + 1) < cLine
    omega
  simp only [PyData.shown] at hQ hz
  refine call_repr_slot (by omega) ⟨o, ho, hc⟩ F.slot_list_repr.toG ?_
  cases us with
  | nil =>
    cases r
    simp only [PyData.shownAll, listText_nil] at hQ
    exact call_list_repr_empty ⟨o, ho, hc⟩ ho hd ⟨_, _, rfl, hQ s.heap _ _ fun _ _ e => e⟩
  | cons x l =>
    exact call_list_reprK ho hc hd na (by simpa using k.length_eq) (fun i y e => k.item i y (by simpa using e)) hg (fun b _ => Clear.nil b) un (fun _ _ e => e) (fun h' u tk hk => ⟨_, _, rfl, hQ h' u tk hk⟩) hz
theorem top_tuple {a : Addr} {o : Obj} {n : Nat} {us : List Value} {ds : List PyData} (ho : s.heap.get? a = some o) (hc : o.cls = .type "tuple") (hd : o.data = .seq us.toArray n) (q : ShA P w s.heap us ds) (hg : A.guards = some []) (hu : A.units + ((PyData.tuple ds).depth + 1) < cLine)
    (hz : (PyData.tuple ds).shown.length ≤ sizeLine) (hQ : ∀ h' u tk, (∀ b o, s.heap.get? b = some o → h'.get? b = some o) → Q (.str (PyData.tuple ds).shown u) { s with heap := h', toks := tk }) : wpAny (model P w) A (call (.builtin "repr") [.ref a]) Q E s := by
  obtain ⟨as, bs, r, m, k⟩ := q
  have rr : Reads s.heap (.ref a) (.tuple ds) _ := Reads.tuple ho hc hd r
  have dp : (PyData.tuple ds).depth = PyData.depthAll ds + 1 := by simp only [PyData.depth]
  have na : a ∉ bs := not_mem_of_deeper rr (by omega) m
  have un : A.in1.units + (PyData.depthAll ds + 1) < cLine := by
    show A.units + 1 + (PyData.depthAll ds + 1) < cLine
    omega
  simp only [PyData.shown] at hQ hz
  refine call_repr_slot (by omega) ⟨o, ho, hc⟩ F.slot_tuple_repr ?_
  exact call_tuple_reprK ho hc hd na k hg (fun b _ => Clear.nil b) un (fun _ _ e => e) (fun h' u tk hk => ⟨_, _, rfl, hQ h' u tk hk⟩) hz
theorem top_dict {a : Addr} {o : Obj} {n : Nat} {es : Array DictEntry} {ds : List (PyData × PyData)} (ho : s.heap.get? a = some o) (hc : o.cls = .type "dict") (hd : o.data = .dict es n) (hsm : (a == sysModules) = false)
    (q1 : ShA P w s.heap (es.toList.map (·.key)) (ds.map (·.1))) (q2 : ShA P w s.heap (es.toList.map (·.val)) (ds.map (·.2))) (hg : A.guards = some []) (hu : A.units + ((PyData.dict ds).depth + 1) < cLine)
    (hz : (PyData.dict ds).shown.length ≤ sizeLine) (hQ : ∀ h' u tk, (∀ b o, s.heap.get? b = some o → h'.get? b = some o) → Q (.str (PyData.dict ds).shown u) { s with heap := h', toks := tk }) : wpAny (model P w) A (call (.builtin "repr") [.ref a]) Q E s := by
  obtain ⟨as, b1, r1, m1, k1⟩ := q1
  obtain ⟨cs, b2, r2, m2, k2⟩ := q2
  have rr : Reads s.heap (.ref a) (.dict ds) _ := Reads.dict ho hc hd r1 r2
  have dp : (PyData.dict ds).depth = PyData.depthKv ds + 1 := by simp only [PyData.depth]
  have m : ReadAtMost s.heap (PyData.depthKv ds) (b1 ++ b2) := (m1.mono (PyData.depthAll_keys_le ds)).append (m2.mono (PyData.depthAll_vals_le ds))
  have na : a ∉ b1 ++ b2 := not_mem_of_deeper rr (by omega) m
  have un : A.in1.units + (PyData.depthKv ds + 1) < cLine := by
    show A.units + 1 + (PyData.depthKv ds + 1) < cLine
    omega
  simp only [PyData.shown, PyData.shownKv_eq] at hQ
  simp only [PyData.shown] at hz
  have z1 := k1.more_le (fun b hb => (List.mem_append_left b2 hb : b ∈ b1 ++ b2)) (PyData.depthAll_keys_le ds)
  have z2 := k2.more_le (fun b hb => (List.mem_append_right b1 hb : b ∈ b1 ++ b2)) (PyData.depthAll_vals_le ds)
  refine call_repr_slot (by omega) ⟨o, ho, hc⟩ F.slot_dict_repr ?_
  exact call_dict_reprK ho hc hd hsm na (ReprEntriesK.of_two es.toList _ _ z1 z2) hg (fun b _ => Clear.nil b) un (fun _ _ e => e) (fun h' u tk hk => ⟨_, _, rfl, hQ h' u tk hk⟩) (by rw [← PyData.shownKv_eq]; exact hz)
end
mutual
theorem At.sh {X : Cx} {pins : List (Addr × Obj)} {σ : L2.St} {H F : Hp} {s : Shared} (I : Inv X pins σ H s) (hf : Same F H) : ∀ (d : PyData) (v : V) (u : Value), At X.K F v d → RelV v u → d.showable = true → d.shown.length ≤ sizeLine → Sh X.prog X.w s.heap u d
  | .none, _, _, h, r, _, _ => by
    cases h; cases r
    exact ⟨[], [], Reads.none, fun _ z => (nomatch z), by simp only [PyData.shown]; exact .of_is ReprIs.none _ _ _⟩
  | .bool b, _, _, h, r, _, _ => by
    cases h; cases r
    exact ⟨[], [], Reads.bool b, fun _ z => (nomatch z), by simp only [PyData.shown]; exact .of_is (ReprIs.bool b) _ _ _⟩
  | .int i, _, _, h, r, hs, hz => by
    cases h
    obtain ⟨t, rfl⟩ := r
    exact rk_key (k := .inl i) (show keyIs (.inl i) (.int i t) = true by simp [keyIs, Value.isInt]) hs hz
  | .str x, _, _, h, r, hs, hz => by
    cases h
    obtain ⟨t, rfl⟩ := r
    exact rk_key (k := .inr x) (show keyIs (.inr x) (.str x t) = true by simp [keyIs, Value.isStr, Value.isStrOf]) hs hz
  | .list ds, _, _, h, r, hs, hz => by
    cases h with
    | lst hl ha =>
      cases r
      obtain ⟨its, rv, ⟨o, n, ho, hc, _, hdat⟩, _⟩ := I.list (SqL.of (hf _ _ hl))
      simp only [PyData.showable] at hs
      simp only [PyData.shown] at hz
      exact sh_list ho hc hdat (AtL.sh I hf ds _ its ha rv hs fun t ht => Nat.le_trans (listText_mem_le ht) hz)
  | .tuple ds, _, _, h, r, hs, hz => by
    cases h with
    | tup hl ha =>
      cases r
      obtain ⟨its, rv, ⟨o, ho, hc, n, hdat⟩, _⟩ := I.tuple (sqT_mono hf hl)
      simp only [PyData.showable] at hs
      simp only [PyData.shown] at hz
      exact sh_tuple ho hc hdat (AtL.sh I hf ds _ its ha rv hs fun t ht => Nat.le_trans (tupleText_mem_le ht) hz)
  | .dict ds, _, _, h, r, hs, hz => by
    cases h with
    | dct hl ha =>
      cases r
      obtain ⟨_, hd, vs, rel, o, es, ep, eo, exd, hdat, _, hp, _⟩ := dk_rd I.hok (rd_mono hf hl)
      simp only [PyData.showable] at hs
      simp only [PyData.shown] at hz
      obtain ⟨s1, s2⟩ := PyData.showableKv_split ds hs
      obtain ⟨q1, q2⟩ := AtKv.sh I hf ds _ vs es.toList ha rel hp s1 s2 (fun t ht => by
        obtain ⟨p, hp, hl⟩ := PyData.shownKv_key_le ds t ht
        exact Nat.le_trans hl (Nat.le_trans (dictText_mem_le hp) hz)) fun t ht => by
        obtain ⟨p, hp, hl⟩ := PyData.shownKv_val_le ds t ht
        exact Nat.le_trans hl (Nat.le_trans (dictText_mem_le hp) hz)
      exact sh_dict eo exd.1 hdat hd q1 q2
theorem AtL.sh {X : Cx} {pins : List (Addr × Obj)} {σ : L2.St} {H F : Hp} {s : Shared} (I : Inv X pins σ H s) (hf : Same F H) : ∀ (ds : List PyData) (vs : List V) (us : List Value), AtL X.K F vs ds → Vals vs us → PyData.showableAll ds = true → (∀ t ∈ PyData.shownAll ds, t.length ≤ sizeLine) → ShA X.prog X.w s.heap us ds
  | [], _, _, h, r, _, _ => by cases h; cases r; exact sha_nil
  | d :: ds, _, _, h, r, hs, hz => by
    cases h with
    | cons h1 h2 =>
      cases r with
      | cons r1 r2 =>
        simp only [PyData.showableAll, Bool.and_eq_true] at hs
        rw [PyData.shownAll] at hz
        exact sha_cons (At.sh I hf d _ _ h1 r1 hs.1 (hz _ (List.mem_cons_self ..))) (AtL.sh I hf ds _ _ h2 r2 hs.2 fun t ht => hz t (List.mem_cons_of_mem _ ht))
theorem AtKv.sh {X : Cx} {pins : List (Addr × Obj)} {σ : L2.St} {H F : Hp} {s : Shared} (I : Inv X pins σ H s) (hf : Same F H) : ∀ (ds : List (PyData × PyData)) (kvs : List (Key × V)) (vs : List (Key × Value)) (es : List DictEntry), AtKv X.K F kvs ds → KV kvs vs → Pairs (mixKind X.prog X.w) es vs →
    PyData.showableAll (ds.map (·.1)) = true → PyData.showableAll (ds.map (·.2)) = true → (∀ t ∈ PyData.shownAll (ds.map (·.1)), t.length ≤ sizeLine) → (∀ t ∈ PyData.shownAll (ds.map (·.2)), t.length ≤ sizeLine) →
    ShA X.prog X.w s.heap (es.map (·.key)) (ds.map (·.1)) ∧ ShA X.prog X.w s.heap (es.map (·.val)) (ds.map (·.2))
  | [], _, _, _, h, r, p, _, _, _, _ => by cases h; cases r; cases p; exact ⟨sha_nil, sha_nil⟩
  | (_, d) :: ds, _, _, _, h, r, p, s1, s2, z1, z2 => by
    cases h with
    | cons h1 h2 =>
      cases r with
      | cons r1 r2 =>
        cases p with
        | cons p1 p2 p3 =>
          obtain ⟨e1, e2⟩ := r1
          dsimp only at e1 e2
          rw [← e1] at p1
          rw [← p2] at e2
          simp only [List.map_cons, PyData.showableAll, Bool.and_eq_true] at s1 s2
          rw [List.map_cons, PyData.shownAll] at z1 z2
          obtain ⟨q1, q2⟩ := AtKv.sh I hf ds _ _ _ h2 r2 p3 s1.2 s2.2 (fun t ht => z1 t (List.mem_cons_of_mem _ ht)) fun t ht => z2 t (List.mem_cons_of_mem _ ht)
          exact ⟨sha_cons (rk_key p1 s1.1 (z1 _ (List.mem_cons_self ..))) q1, sha_cons (At.sh I hf d _ _ h1 e2 s2.1 (z2 _ (List.mem_cons_self ..))) q2⟩
end
/-- what repr may be asked of, dicts too -/
def ShowsD (d : PyData) : Prop := d.showable = true ∧ d.shown.length ≤ sizeLine ∧ d.depth ≤ 30
theorem Shows.d {d : PyData} (h : Shows d) : ShowsD d := h.2
def rReprD (K : PySem.W.Frag) : List V → Hp → VK → Prop := fun xs H Q => ∃ x d, xs = [x] ∧ Da K H x d ∧ ShowsD d ∧ Q (.str d.shown) H
section
variable {X : Cx} {W : WC} {u : Nat} {e : Expr} {mas : MA} {pos p : Pos}
theorem cr_reprD (hg : X.A.guards = some []) (hu : X.A.units + 64 < cLine) : CallR X (.builtin "repr") (rReprD X.K) := by
  intro pins s σ H xs us Q I r ⟨x, d, e, ⟨F, hF, hd⟩, ⟨hs, hz, hdp⟩, q⟩
  subst e
  obtain ⟨u, rfl, ru⟩ := vals1 r
  have fin : ∀ h' v tk, (∀ b o, s.heap.get? b = some o → h'.get? b = some o) → EP X pins σ Q (.str d.shown v) { s with heap := h', toks := tk } := fun h' v tk hk => ⟨.str _, H, I.kept hk, ⟨_, rfl⟩, q⟩
  match d, hd, hs, hz, q, hdp, fin with
  | .none, hd, hs, hz, q, _, _ =>
    cases hd; cases ru
    simp only [PyData.shown] at q
    exact PySem.P.repr_of_none ⟨.str "None", H, I.tok _, ⟨_, rfl⟩, q⟩
  | .bool b, hd, hs, hz, q, _, _ =>
    cases hd; cases ru
    simp only [PyData.shown] at q
    exact PySem.P.repr_of_bool ⟨.str _, H, I.tok _, ⟨_, rfl⟩, q⟩
  | .int i, hd, hs, hz, q, _, _ =>
    cases hd
    obtain ⟨t, rfl⟩ := ru
    simp only [PyData.shown] at q
    exact PySem.P.repr_of_int (by simpa [PyData.showable] using hs) ⟨.str _, H, I.tok _, ⟨_, rfl⟩, q⟩
  | .str z, hd, hs, hz, q, _, _ =>
    cases hd
    obtain ⟨t, rfl⟩ := ru
    simp only [PyData.shown] at q hz
    exact PySem.P.repr_of_str ⟨.str _, H, I.tok _, ⟨_, rfl⟩, q⟩ hz
  | .list ds, hd, hs, hz, q, hdp, fin =>
    cases hd with
    | lst hl ha =>
      cases ru
      obtain ⟨its, rv, ⟨o, n, ho, hc, _, hdat⟩, _⟩ := I.list (SqL.of (hF _ _ hl))
      refine top_list ho hc hdat (AtL.sh I hF ds _ its ha rv (by simpa only [PyData.showable] using hs) fun t ht => Nat.le_trans (listText_mem_le ht) (by simpa only [PyData.shown] using hz)) hg (by omega) hz fin
  | .tuple ds, hd, hs, hz, q, hdp, fin =>
    cases hd with
    | tup hl ha =>
      cases ru
      obtain ⟨its, rv, ⟨o, ho, hc, n, hdat⟩, _⟩ := I.tuple (sqT_mono hF hl)
      refine top_tuple ho hc hdat (AtL.sh I hF ds _ its ha rv (by simpa only [PyData.showable] using hs) fun t ht => Nat.le_trans (tupleText_mem_le ht) (by simpa only [PyData.shown] using hz)) hg (by omega) hz fin
  | .dict ds, hd, hs, hz, q, hdp, fin =>
    cases hd with
    | dct hl ha =>
      cases ru
      obtain ⟨_, hsm, vs, rel, o, es, ep, eo, exd, hdat, _, hp, _⟩ := dk_rd I.hok (rd_mono hF hl)
      have hz' : (dictText (PyData.shownKv ds)).length ≤ sizeLine := by simpa only [PyData.shown] using hz
      obtain ⟨s1, s2⟩ := PyData.showableKv_split ds (by simpa only [PyData.showable] using hs)
      obtain ⟨q1, q2⟩ := AtKv.sh I hF ds _ vs es.toList ha rel hp s1 s2 (fun t ht => by
        obtain ⟨p, hp, hl⟩ := PyData.shownKv_key_le ds t ht
        exact Nat.le_trans hl (Nat.le_trans (dictText_mem_le hp) hz')) fun t ht => by
        obtain ⟨p, hp, hl⟩ := PyData.shownKv_val_le ds t ht
        exact Nat.le_trans hl (Nat.le_trans (dictText_mem_le hp) hz')
      refine top_dict eo exd.1 hdat hsm q1 q2 hg (by omega) hz fin
def oReprD : D1 := fun x R => match x.pd with
  | some d => ShowsD d ∧ R (.d (.str d.shown))
  | none => False
theorem on_reprD : OpN X (rReprD X.K) (o1 oReprD) := on_1 fun G F δ σ H v x R Q hK g hx h k => by
  unfold oReprD at h
  split at h
  · rename_i d e
    have hd := pd_da hx g.fh e
    rw [hK] at hd
    exact ⟨v, d, rfl, hd, h.1, k _ h.2 _ F H (g.pushD (.str _))⟩
  · exact h.elim
theorem de_reprD (cx : CtxU X) (hg : Gl X "repr") (hm : X.mg "repr" = none) (ha : DA X W [e] mas u) (he : starEach [e] X.env = (false, eval e X.env) :: starEach [] X.env := by rfl) (hpl : (backTo pos (starEach [] X.env)).any (·.1) = false := by rfl) :
    DE X W (.Call (.Name "repr" p) [e] [] pos) (mCB (o1 oReprD) mas) u := de_callB (cr_reprD cx.gd cx.u64) on_reprD hg hm (by decide +kernel) ha (by decide) (by decide) he hpl
/-! ### {} and {'k': e} -/
def mDict0 : ME := fun _ _ R => R (.odk [])
theorem de_dict0 : DE X W (.Dict [] [] pos) mDict0 0 := ⟨PE.imp pe_dnewK fun σ H Q q => by
  obtain ⟨ex, G, F, δ, τ, ts, τ1, ts1, R, n, m, k⟩ := q
  exact fun p hp => k _ m _ F _ ((n.good.later 0).newK hp .nil)⟩
def mDictI (x : Str) (i : Int) : ME := fun _ _ R => R (.odk [(.str x, .int i)])
theorem de_dictI {x : Str} {i : Int} {k1 k2 : Nat} {p1 p2 : Pos} : DE X W (.Dict [some (.Constant (.str x) k1 p1)] [.Constant (.int i) k2 p2] pos) (mDictI x i) 0 := ⟨PE.imp (pe_disp (pps_cons pe_str pe_int pps_nil) (by rfl) (by rfl) (fun z => by cases z) (by show 1 ≤ 15; decide)) fun σ H Q q => by
  obtain ⟨ex, G, F, δ, τ, ts, τ1, ts1, R, n, m, k⟩ := q
  refine fun p hp => ⟨upd_same, [(.inr x, .int i)], rfl, by show 1 ≤ 15; decide, ?_⟩
  rw [upd_upd]
  exact k _ m _ F _ ((n.good.later 0).newK hp (.cons (k := .inr x) (.int i) .nil))⟩
end
/-! ### xs.count(e), xs.index(e) of data -/
def rCntD (K : PySem.W.Frag) : V → List V → Hp → VK → Prop := fun x xs H Q => ∃ y d ds, xs = [y] ∧ Da K H x (.list ds) ∧ Da K H y d ∧ SeqAt.shaped (.list ds) = true ∧ SeqAt.shaped d = true ∧ Q (.int ((ds.countP fun z => PyData.eqv z d : Nat) : Int)) H
def rIdxD (K : PySem.W.Frag) : V → List V → Hp → VK → Prop := fun x xs H Q => ∃ y d ds j z, xs = [y] ∧ Da K H x (.list ds) ∧ Da K H y d ∧ SeqAt.shaped (.list ds) = true ∧ SeqAt.shaped d = true ∧ ds[j]? = some z ∧ PyData.eqv z d = true ∧ (∀ (m : Nat) (z' : PyData), m < j → ds[m]? = some z' → PyData.eqv z' d = false) ∧ Q (.int (j : Nat)) H
section
variable {X : Cx} {W : WC} {u1 u2 : Nat} {e : Expr} {es : List Expr} {mas : MA} {me : ME} {pos p ap cp : Pos}
theorem count_map {α β : Type} {f : α → β} {p : β → Bool} : ∀ l : List α, (l.map f).countP p = l.countP fun a => p (f a)
  | [] => rfl
  | a :: l => by simp only [List.map_cons, List.countP_cons, count_map l]
theorem mt_cntD (hu : X.A.units + 65 < cLine) : MtR X "list.count" (rCntD X.K) := by
  intro pins s σ H x xs v us Q I rx rxs h
  obtain ⟨y, d, ds, rfl, ⟨F, hF, hl⟩, ⟨F2, hF2, hy⟩, sl, sd, q⟩ := h
  cases hl with
  | lst hs ha =>
    cases rx
    obtain ⟨uy, rfl, ry⟩ := rxs.one
    obtain ⟨bs, r1⟩ := At.reads I hF2 d y uy (shaped_nd sd) hy ry
    have hxs : PyData.canLayAll0 ds = true := SeqAt.canLay_of_shaped sl
    obtain ⟨its, rv, ⟨⟨cls, dd, dat, sls⟩, n, ho, hc, hdn, hdt⟩, hlen⟩ := I.list (SqL.of (hF _ _ hs))
    simp only at hc hdt
    subst hc hdt
    obtain ⟨as, h4⟩ := AtL.reads I hF ds _ its (by have := shaped_nd sl; simpa only [PyData.hasDict] using this) ha rv
    have hmap : its.map (SeqAt.readOf s.heap) = ds := SeqAt.readsAll_map ds its as hxs h4
    refine call_meets PySem.F.slot_list_count ⟨_, ho, rfl⟩ PySem.F.entry_list_count (PySem.F.args_list_count_2 _ _)
      (SeqAt.list_countAt _ its.toArray n dd sls uy (fun u => PyData.eqv (SeqAt.readOf s.heap u) d)) ⟨ho, SeqAt.items_eqAt (vs := its.toArray) (show ReadsAll s.heap its.toArray.toList ds as from h4) r1 hxs (SeqAt.canLay_of_shaped sd) (PyProof.Rows.room_in_shaped sd hu), ?_⟩
    have ec : its.toArray.toList.countP (fun u => PyData.eqv (SeqAt.readOf s.heap u) d) = ds.countP fun z => PyData.eqv z d := by
      rw [← hmap, count_map]
    rw [ec]
    exact ⟨.int _, H, I.tok _, ⟨_, rfl⟩, q⟩
theorem mt_idxD (hu : X.A.units + 65 < cLine) : MtR X "list.index" (rIdxD X.K) := by
  intro pins s σ H x xs v us Q I rx rxs h
  obtain ⟨y, d, ds, j, z, rfl, ⟨F, hF, hl⟩, ⟨F2, hF2, hy⟩, sl, sd, hz, hzj, hno, q⟩ := h
  cases hl with
  | lst hs ha =>
    cases rx
    obtain ⟨uy, rfl, ry⟩ := rxs.one
    obtain ⟨bs, r1⟩ := At.reads I hF2 d y uy (shaped_nd sd) hy ry
    have hxs : PyData.canLayAll0 ds = true := SeqAt.canLay_of_shaped sl
    obtain ⟨its, rv, ⟨⟨cls, dd, dat, sls⟩, n, ho, hc, hdn, hdt⟩, hlen⟩ := I.list (SqL.of (hF _ _ hs))
    simp only at hc hdt
    subst hc hdt
    obtain ⟨as, h4⟩ := AtL.reads I hF ds _ its (by have := shaped_nd sl; simpa only [PyData.hasDict] using this) ha rv
    have hmap : its.map (SeqAt.readOf s.heap) = ds := SeqAt.readsAll_map ds its as hxs h4
    have hit : ∀ (m : Nat) (hm : m < its.toArray.size) (z' : PyData), ds[m]? = some z' → SeqAt.readOf s.heap its.toArray[m] = z' := fun m hm z' hz' => by
      rw [← hmap, List.getElem?_map] at hz'
      rw [List.getElem?_eq_getElem (by simpa using hm)] at hz'
      exact Option.some.inj hz'
    have hjd := (List.getElem?_eq_some_iff.mp hz).1
    have hj : j < its.toArray.size := by
      have : ds.length = its.length := by rw [← hmap, List.length_map]
      simpa [this] using hjd
    have hv := rv.length
    refine call_meets PySem.F.slot_list_index ⟨_, ho, rfl⟩ PySem.F.entry_list_index (PySem.F.args_list_index_2 _ _)
      (SeqAt.list_indexAt _ its.toArray n dd sls uy (fun u => PyData.eqv (SeqAt.readOf s.heap u) d) j hj (by have := sizeLine_eq; simp only [List.size_toArray] at hj; omega) (by
        show PyData.eqv (SeqAt.readOf s.heap its.toArray[j]) d = true
        rw [hit j hj z hz]
        exact hzj) fun m hm hmj => by
        have hmd : m < ds.length := Nat.lt_trans hmj hjd
        show PyData.eqv (SeqAt.readOf s.heap its.toArray[m]) d = false
        rw [hit m hm _ (List.getElem?_eq_getElem hmd)]
        exact hno m _ hmj (List.getElem?_eq_getElem hmd)) ⟨ho, SeqAt.items_eqAt (vs := its.toArray) (show ReadsAll s.heap its.toArray.toList ds as from h4) r1 hxs (SeqAt.canLay_of_shaped sd) (PyProof.Rows.room_in_shaped sd hu), ?_⟩
    exact ⟨.int _, H, I.tok _, ⟨_, rfl⟩, q⟩
/-- x.m(e), x a list -/
def mMeth (o : D2) (me : ME) (t : MA) : ME := fun ex δ R => me ex δ fun x => x.lst.isSome = true ∧ t ex δ fun ys => match ys with
  | [y] => o x y R
  | _ => False
theorem de_meth {name : Str} {id : String} {r : V → List V → Hp → VK → Prop} {o : D2} {rc : Expr} (slot : Slot "list" name id) (hty : typeOf (.builtin id) = pure (.type "method_descriptor")) (hm : MtR X id r)
    (ho : OpN X (fun vs H Q => match vs with | v :: us => r v us H Q | [] => False) (fun xs R => match xs with | [x, y] => o x y R | _ => False)) (hr : DE X W rc me u1) (ha : DA X W [e] mas u2)
    (hbase : attributeBase rc name X.env (eval rc X.env) = eval rc X.env := by rfl)
    (hfew : ((backTo cp (starEach [e] X.env)).all (fun x => !x.1) && (backToKw cp (keywordEach [] X.env)).all (fun x => x.1.isSome)
      && decide ([e].length + ([] : List Keyword).length + (if ([] : List Keyword).isEmpty then 0 else 1) < 30)) = true := by rfl)
    (hline : (ap.endLine == cp.line) = true := by rfl) (hs : starEach [e] X.env = (false, eval e X.env) :: starEach [] X.env := by rfl) (hplain : (backTo cp (starEach [] X.env)).any (·.1) = false := by rfl) :
    DE X W (.Call (.Attribute rc name ap) [e] [] cp) (mMeth o me mas) (u1 + u2) :=
  ⟨PE.imp (pe_bm PySem.F.plainAttrs_list slot hty hm hr.pe ha.pa hbase hfew hline hs hplain) fun σ H Q q => by
    obtain ⟨ex, G, F, δ, τ, ts, τ1, ts1, R, n, m, k⟩ := q
    refine ⟨ex, G, F, δ, τ, ts, τ1, ts1, _, n.fst, m, fun x hx v F1 H1 g1 => ?_⟩
    obtain ⟨hlst, hx⟩ := hx
    refine ⟨?_, ex, G.up u1, F1, δ, τ, ts, _, _, _, n.after g1, hx, fun ys hys vs F2 H2 hl g2 => ?_⟩
    · obtain ⟨xs, exs⟩ := Option.isSome_iff_exists.mp hlst
      obtain ⟨v', vs, e1, h1, h2⟩ := lst_of g1.top g1.fh exs
      subst e1
      exact .inl ⟨rfl, vs, SqL.of h1⟩
    · match ys, hys, vs, hl with
      | [y], hys, [w], _ =>
        exact ho ((G.up u1).up u2) F2 (δ ++ τ ++ τ1) (σ ++ ts ++ ts1) H2 [v, w] [x, y] R Q n.k rfl (by simpa [List.append_assoc] using g2) hys fun z hz w' F' H' g' => k z hz w' F' H' (by rw [← up_up]; exact g')⟩
def oCnt : D2 := fun x y R => match x.pd, y.pd with
  | some (.list ds), some d => SeqAt.shaped (.list ds) = true ∧ SeqAt.shaped d = true ∧ R (.d (.int ((ds.countP fun z => PyData.eqv z d : Nat) : Int)))
  | _, _ => False
theorem on_cnt : OpN X (fun vs H Q => match vs with | v :: us => rCntD X.K v us H Q | [] => False) (fun xs R => match xs with | [x, y] => oCnt x y R | _ => False) := on_2 fun G F δ σ H v u x y R Q hK g hx hy h k => by
  unfold oCnt at h
  split at h
  · rename_i ds d e1 e2
    have h1 := pd_da hx g.fh e1
    have h2 := pd_da hy g.fh e2
    rw [hK] at h1 h2
    exact ⟨u, d, ds, rfl, h1, h2, h.1, h.2.1, k _ h.2.2 _ F H (g.pushD (.int _))⟩
  · exact h.elim
def oIdx : D2 := fun x y R => match x.pd, y.pd with
  | some (.list ds), some d => SeqAt.shaped (.list ds) = true ∧ SeqAt.shaped d = true ∧ ∃ j z, ds[j]? = some z ∧ PyData.eqv z d = true ∧ (∀ (m : Nat) (z' : PyData), m < j → ds[m]? = some z' → PyData.eqv z' d = false) ∧ R (.d (.int (j : Nat)))
  | _, _ => False
theorem on_idx : OpN X (fun vs H Q => match vs with | v :: us => rIdxD X.K v us H Q | [] => False) (fun xs R => match xs with | [x, y] => oIdx x y R | _ => False) := on_2 fun G F δ σ H v u x y R Q hK g hx hy h k => by
  unfold oIdx at h
  split at h
  · rename_i ds d e1 e2
    have h1 := pd_da hx g.fh e1
    have h2 := pd_da hy g.fh e2
    rw [hK] at h1 h2
    obtain ⟨a, b, j, z, c1, c2, c3, c4⟩ := h
    exact ⟨u, d, ds, j, z, rfl, h1, h2, a, b, c1, c2, c3, k _ c4 _ F H (g.pushD (.int _))⟩
  · exact h.elim
theorem de_count (cx : CtxU X) {rc : Expr} (hr : DE X W rc me u1) (ha : DA X W [e] mas u2)
    (hbase : attributeBase rc "count" X.env (eval rc X.env) = eval rc X.env := by rfl)
    (hfew : ((backTo cp (starEach [e] X.env)).all (fun x => !x.1) && (backToKw cp (keywordEach [] X.env)).all (fun x => x.1.isSome)
      && decide ([e].length + ([] : List Keyword).length + (if ([] : List Keyword).isEmpty then 0 else 1) < 30)) = true := by rfl)
    (hline : (ap.endLine == cp.line) = true := by rfl) (hs : starEach [e] X.env = (false, eval e X.env) :: starEach [] X.env := by rfl) (hplain : (backTo cp (starEach [] X.env)).any (·.1) = false := by rfl) :
    DE X W (.Call (.Attribute rc "count" ap) [e] [] cp) (mMeth oCnt me mas) (u1 + u2) := de_meth PySem.F.slot_list_count PySem.F.type_list_count (mt_cntD cx.u65) on_cnt hr ha hbase hfew hline hs hplain
theorem de_index (cx : CtxU X) {rc : Expr} (hr : DE X W rc me u1) (ha : DA X W [e] mas u2)
    (hbase : attributeBase rc "index" X.env (eval rc X.env) = eval rc X.env := by rfl)
    (hfew : ((backTo cp (starEach [e] X.env)).all (fun x => !x.1) && (backToKw cp (keywordEach [] X.env)).all (fun x => x.1.isSome)
      && decide ([e].length + ([] : List Keyword).length + (if ([] : List Keyword).isEmpty then 0 else 1) < 30)) = true := by rfl)
    (hline : (ap.endLine == cp.line) = true := by rfl) (hs : starEach [e] X.env = (false, eval e X.env) :: starEach [] X.env := by rfl) (hplain : (backTo cp (starEach [] X.env)).any (·.1) = false := by rfl) :
    DE X W (.Call (.Attribute rc "index" ap) [e] [] cp) (mMeth oIdx me mas) (u1 + u2) := de_meth PySem.F.slot_list_index PySem.F.type_list_index (mt_idxD cx.u65) on_idx hr ha hbase hfew hline hs hplain
theorem bl_eqv {a b : Bool} : PyData.eqv (.bool a) (.bool b) = (a == b) := by cases a <;> cases b <;> decide +kernel
end
/-! ## sizes of data, dicts too -/
structure SzD (d : PyData) (dp wd : Nat) : Prop where
  sh : d.showable = true
  de : d.depth ≤ dp
  ln : d.shown.length ≤ wd
theorem Sz.d {d : PyData} {dp wd : Nat} (h : Sz d dp wd) : SzD d dp wd := ⟨h.sh, h.de, Nat.le_trans (shown_le d h.nd h.sh) h.wi⟩
theorem SzD.mono {d : PyData} {a b a' b' : Nat} (h : SzD d a b) (ha : a ≤ a') (hb : b ≤ b') : SzD d a' b' := ⟨h.sh, Nat.le_trans h.de ha, Nat.le_trans h.ln hb⟩
theorem SzD.shows {d : PyData} {dp wd : Nat} (h : SzD d dp wd) (h1 : dp ≤ 30) (h2 : wd ≤ sizeLine) : ShowsD d := ⟨h.sh, Nat.le_trans h.ln h2, Nat.le_trans h.de h1⟩
theorem szDA {dp wd : Nat} : ∀ {xs : List PyData}, (∀ x ∈ xs, SzD x dp wd) → PyData.showableAll xs = true ∧ PyData.depthAll xs ≤ dp ∧ piled (PyData.shownAll xs) ≤ xs.length * (wd + 2)
  | [], _ => ⟨rfl, Nat.zero_le _, by simp [PyData.shownAll, piled_nil]⟩
  | x :: xs, h => by
    have a := h x (by simp)
    obtain ⟨b1, b2, b3⟩ := szDA (xs := xs) fun y hy => h y (by simp [hy])
    refine ⟨by simp [PyData.showableAll, a.sh, b1], ?_, ?_⟩
    · simp only [PyData.depthAll]
      have := a.de
      omega
    · have := a.ln
      simp only [PyData.shownAll, piled_cons, List.length_cons, Nat.succ_mul]
      omega
theorem SzD.lst {xs : List PyData} {dp wd n : Nat} (h : ∀ x ∈ xs, SzD x dp wd) (hn : xs.length ≤ n) : SzD (.list xs) (dp + 1) (4 + n * (wd + 2)) := by
  obtain ⟨b1, b2, b3⟩ := szDA h
  have hm : xs.length * (wd + 2) ≤ n * (wd + 2) := Nat.mul_le_mul_right _ hn
  refine ⟨by simp [PyData.showable, b1], by simp only [PyData.depth]; omega, ?_⟩
  have := listText_le (PyData.shownAll xs)
  simp only [PyData.shown]
  omega
theorem SzD.tup {xs : List PyData} {dp wd n : Nat} (h : ∀ x ∈ xs, SzD x dp wd) (hn : xs.length ≤ n) : SzD (.tuple xs) (dp + 1) (4 + n * (wd + 2)) := by
  obtain ⟨b1, b2, b3⟩ := szDA h
  have hm : xs.length * (wd + 2) ≤ n * (wd + 2) := Nat.mul_le_mul_right _ hn
  refine ⟨by simp [PyData.showable, b1], by simp only [PyData.depth]; omega, ?_⟩
  have := tupleText_le (PyData.shownAll xs)
  simp only [PyData.shown]
  omega
theorem SzD.two {x y : PyData} {dp wd : Nat} (hx : SzD x dp wd) (hy : SzD y dp wd) : SzD (.list [x, y]) (dp + 1) (4 + 2 * (wd + 2)) := SzD.lst (fun z hz => by
  rcases List.mem_cons.mp hz with rfl | hz
  · exact hx
  · cases List.mem_singleton.mp hz
    exact hy) (by simp)
theorem val_odk (xs : List (PyData × PyData)) : (DV.odk xs).val = some (.dict xs) := rfl
end DL

namespace DL
open PySem PySem.Spec L2
/-! ## displays of constants, read in one step -/
section
variable {X : Cx} {W : WC} {u : Nat} {e : Expr} {es : List Expr} {m m' : ME} {pos : Pos}
theorem DE.weak (h : DE X W e m u) (i : ∀ ex δ R, m' ex δ R → m ex δ R) : DE X W e m' u := ⟨PE.imp h.pe fun σ H Q q => by
  obtain ⟨ex, G, F, δ, τ, ts, τ1, ts1, R, n, mm, k⟩ := q
  exact ⟨ex, G, F, δ, τ, ts, τ1, ts1, R, n, i _ _ _ mm, k⟩⟩
theorem DA.weak {t t' : MA} (h : DA X W es t u) (i : ∀ ex δ R, t' ex δ R → t ex δ R) : DA X W es t' u := ⟨PA.imp h.pa fun σ H Q q => by
  obtain ⟨ex, G, F, δ, τ, ts, τ1, ts1, R, n, mm, k⟩ := q
  exact ⟨ex, G, F, δ, τ, ts, τ1, ts1, R, n, i _ _ _ mm, k⟩⟩
/-- e is the constant d -/
def mK (d : PyData) : ME := fun _ _ R => ∀ y : DV, y.val = some d → R y
def mKA (ds : List PyData) : MA := fun _ _ R => ∀ xs : List DV, vals xs = some ds → R xs
theorem k_int {i : Int} {j : Nat} : DE X W (.Constant (.int i) j pos) (mK (.int i)) 0 := de_int.weak fun _ _ R q => q (.d (.int i)) rfl
theorem k_bl {b : Bool} {j : Nat} : DE X W (.Constant (.bool b) j pos) (mK (.bool b)) 0 := de_bl.weak fun _ _ R q => q (.d (.bool b)) rfl
theorem k_non {j : Nat} : DE X W (.Constant .none j pos) (mK .none) 0 := de_non.weak fun _ _ R q => q (.d .none) rfl
theorem k_str {x : Str} {j : Nat} : DE X W (.Constant (.str x) j pos) (mK (.str x)) 0 := de_str.weak fun _ _ R q => q (.d (.str x)) rfl
theorem k_neg {i k : Int} {j : Nat} {p : Pos} (hk : -i = k := by decide) : DE X W (.UnaryOp .USub (.Constant (.int i) j p) pos) (mK (.int k)) 0 := (de_neg de_int).weak fun _ _ R q => by
  show R (.d (.int (-i)))
  rw [hk]
  exact q (.d (.int k)) rfl
theorem k_pow {a b k : Int} {j j' : Nat} {p p' : Pos} (hc : CPow a b) (hk : a ^ b.toNat = k := by decide +kernel) : DE X W (.BinOp (.Constant (.int a) j p) .Pow (.Constant (.int b) j' p') pos) (mK (.int k)) 0 := (de_pow de_int de_int).weak fun _ _ R q => by
  show CPow a b ∧ R (.d (.int (a ^ b.toNat)))
  rw [hk]
  exact ⟨hc, q (.d (.int k)) rfl⟩
theorem k_dict0 : DE X W (.Dict [] [] pos) (mK (.dict [])) 0 := de_dict0.weak fun _ _ R q => q (.odk []) rfl
theorem k_dictI {x : Str} {i : Int} {k1 k2 : Nat} {p1 p2 : Pos} : DE X W (.Dict [some (.Constant (.str x) k1 p1)] [.Constant (.int i) k2 p2] pos) (mK (.dict [(.str x, .int i)])) 0 := de_dictI.weak fun _ _ R q => q (.odk [(.str x, .int i)]) rfl
theorem ka_nil : DA X W [] (mKA []) 0 := da_nil.weak fun _ _ R q => q [] rfl
theorem ka_cons {d : PyData} {ds : List PyData} (h : DE X W e (mK d) 0) (t : DA X W es (mKA ds) 0) (hs : starEach (e :: es) X.env = (false, eval e X.env) :: starEach es X.env := by rfl) : DA X W (e :: es) (mKA (d :: ds)) 0 :=
  (da_cons h t hs).weak fun _ _ R q => fun y hy xs hxs => q (y :: xs) (by unfold vals; rw [hy, hxs])
theorem k_tup {ds : List PyData} {x1 : _} (h : DA X W es (mKA ds) 0) (hl : ds.length ≤ 1000 := by decide) : DE X W (.Tuple es x1 pos) (mK (.tuple ds)) 0 := (de_tup h).weak fun _ _ R q => fun xs hxs => by
  have e := vals_len hxs
  dsimp only
  rw [hxs]
  exact ⟨by rw [← e, sizeLine_eq]; omega, q (.d (.tuple ds)) rfl⟩
theorem k_lst {ds : List PyData} (h : DA X W es (mKA ds) 0) (hl : ds.length ≤ 1000 := by decide) : DE X W (.List es pos) (mK (.list ds)) 0 := (de_lst h).weak fun _ _ R q => fun xs hxs => by
  have e := vals_len hxs
  dsimp only
  rw [hxs]
  exact ⟨by rw [← e, sizeLine_eq]; omega, q (.own ds) rfl⟩
def mKL (ds : List PyData) : ME := fun _ _ R => R (.own ds)
def mKT (ds : List PyData) : ME := fun _ _ R => R (.d (.tuple ds))
theorem de_kl {ds : List PyData} (h : DA X W es (mKA ds) 0) (hl : ds.length ≤ 1000 := by decide) : DE X W (.List es pos) (mKL ds) 0 := (de_lst h).weak fun _ _ R q => fun xs hxs => by
  have e := vals_len hxs
  dsimp only
  rw [hxs]
  exact ⟨by rw [← e, sizeLine_eq]; omega, q⟩
end
end DL

namespace L2
open PySem PySem.Spec PyProof.Rows
section
variable {P : Program} {w : World} {A : Around} {E : Value → Shared → Prop} {s : Shared}
abbrev newSet (w : World) : Obj := { cls := .type "set", dict := none, data := .set #[] 0 (.fresh 0 0 (!w.params.followText "set-order")) }
/-- set(x): what __init__ does with the new set -/
theorem set_by_init (x : Value) {T : Value → Shared → Prop}
    (h : wpAny (model P w) ((A.in1).in1) (Builtin.«set.__init__» ⟨[.ref s.heap.objs.size, x], []⟩)
      (fun fin s' => match fin with
        | .done f => wants (fun r s₂ => r = .none ∧ T (.ref s.heap.objs.size) s₂) E (.ok f) s'
        | .again c' => c'.quiet = true ∧ codeAny (model P w) (A.in1) c' (wants (fun r s₂ => r = .none ∧ T (.ref s.heap.objs.size) s₂) E) s')
      (fun e s' => wants (fun r s₂ => r = .none ∧ T (.ref s.heap.objs.size) s₂) E (.error e) s') { s with heap := s.heap.push (newSet w) }) :
    wpAny (model P w) A (call (.type "set") [x]) T E s := by
  have mr := F.called_set.mro; obtain ⟨c, tl, hmro⟩ := mr
  have g1 := F.called_set.made; have g2 := F.called_set.sub; have g3 := F.called_set.notType; have g4 := F.called_set.canCreate; have g5 := F.typeCall_set_1 x
  refine wpAny_call (codeAny_of_tree (by
    show wpAny _ _ (callAny (.type "set") _) _ _ _
    refine wpAny_pure ⟨Code.quiet_builtin _ (by decide +kernel), codeAny_builtin F.entry_type_call (by
      rw [Around.under_plain (weight_type_call_type "set" [x] []) rfl]
      repeat (any_goals (first | assumption | wp_step))
      refine codeAny_mono (code_set_led1 x (E := E) (Q₁ := fun o s₁ => o = .ref s.heap.objs.size ∧ s₁ = { s with heap := s.heap.push (newSet w) }) ⟨rfl, rfl⟩) fun r s₁ hr => ?_
      match r, hr with
      | .error e, hr => exact hr
      | .ok (.ret o), hr =>
        obtain ⟨e1, e2⟩ := hr
        subst e1; subst e2
        have live : (s.heap.push (newSet w)).get? s.heap.objs.size = some (newSet w) := Heap.get?_push_size _ rfl
        have ty : Shared.TypeIs { s with heap := s.heap.push (newSet w) } (.ref s.heap.objs.size) "set" := ⟨_, live, rfl⟩
        have g6 := F.called_set.init.lookup; have g7 := F.called_set.init.bind (.ref s.heap.objs.size)
        repeat (any_goals (first | assumption | wp_step))
        refine codeAny_mono (codeAny_call_builtin (R := wants (fun r s₂ => r = .none ∧ T (.ref s.heap.objs.size) s₂) E) F.called_set.init.plain F.entry_set_init (check_set_init_1 ty h)) fun r₂ s₂ hr₂ => ?_
        match r₂, hr₂ with
        | .error e, hr₂ => exact hr₂
        | .ok (.ret r), hr₂ =>
          obtain ⟨e1, hq⟩ := hr₂
          subst e1
          repeat (any_goals (first | assumption | wp_step))
        | .ok (.next), hr₂ => exact hr₂.elim
        | .ok (.brk), hr₂ => exact hr₂.elim
        | .ok (.cont), hr₂ => exact hr₂.elim
      | .ok (.next), hr => exact hr.elim
      | .ok (.brk), hr => exact hr.elim
      | .ok (.cont), hr => exact hr.elim)⟩))
theorem call_set_lst {l : Addr} {items : Array Value} (ns : List Int) {Q : Value → Shared → Prop} (hh : A.handled = none) (hl : s.heap.IsList l items) (hit : IntsAre items.toList ns) (hb : ns.length + 1 < scanBound)
    (h : ∀ (h' : Heap) (tk c : Nat), SetR w h' s.heap.objs.size (fun j => decide (j ∈ ns)) c → (∀ b o, s.heap.get? b = some o → h'.get? b = some o) → Q (.ref s.heap.objs.size) { s with heap := h', toks := tk }) :
    wpAny (model P w) A (call (.type "set") [.ref l]) Q E s := by
  refine set_by_init _ ?_
  obtain ⟨ol, hol, hcl, nl, hdl⟩ := hl
  obtain ⟨oc, od, oda, osl⟩ := ol
  cases hcl
  cases hdl
  obtain ⟨hp, gg, dr, tk, os⟩ := s
  have nls := F.sub_list_set
  have nlf := F.sub_list_frozenset
  have nld : (Value.type "list" == Value.type "dict") = false := by decide
  have live : (hp.push (newSet w)).get? l = some { cls := .type "list", dict := od, data := .seq items nl, slots := osl } := Heap.get?_push_of_some _ hol
  have ltb : Shared.TypeIs ⟨hp.push (newSet w), gg, dr, tk, os⟩ (.ref l) "list" := ⟨_, live, rfl⟩
  unfold Builtin.«set.__init__» noKeywords Builtin.Frozenset.updateFrom
  generalize hPI : pyIter = PI
  wp_walk
  subst hPI
  have isl : (hp.push (newSet w)).IsList l items := ⟨_, live, rfl, nl, rfl⟩
  have below : l < hp.objs.size := Heap.lt_size hol
  have size1 := Heap.size_push hp (newSet w)
  have cnt : items.size = ns.length := by
    have q := IntsAre.length hit
    rwa [Array.length_toList] at q
  refine wpAny_pyIter_list isl ?_
  refine wpAny_bind (wpAny_runValue ?_)
  refine set_update_ints ((Walks.list (by simp [hh]) _ l (by show l ≠ (hp.push _).objs.size; rw [size1]; exact Nat.ne_of_lt (Nat.lt_succ_of_lt below)) items).toS) hp.objs.size ?_ ns cnt hb (fun i v hv => ?_) (items.size - 0) 0 _ (by omega) (Nat.zero_le _) ?_ ?_ ?_
  · show hp.objs.size ∉ [(hp.push _).objs.size, l]
    rw [size1]
    simp only [List.mem_cons, List.not_mem_nil, or_false, not_or]
    exact ⟨Nat.ne_of_lt (Nat.lt_succ_self _), Nat.ne_of_gt below⟩
  · have li : i < ns.length := by rw [← cnt]; exact (Array.getElem?_eq_some_iff.mp hv).1
    obtain ⟨t, e⟩ := PyProof.Rows.IntsAre.int_at hit i v (by rw [Array.getElem?_toList]; exact hv)
    exact ⟨ns[i], t, List.getElem?_eq_getElem li, by rw [e, List.getD_eq_getElem?_getD, List.getElem?_eq_getElem li] <;> rfl⟩
  · exact ⟨⟨_, Heap.get?_push_size _ rfl, rfl, rfl⟩, isl.push _⟩
  · exact ⟨0, Nat.le_refl 0, setR_new_at (Heap.get?_push_of_some _ (Heap.get?_push_size _ rfl))⟩
  · intro s' c' mv lc sr
    obtain ⟨h', g2, d', tk', os'⟩ := s'
    obtain rfl : g2 = gg := mv.gens
    obtain rfl : d' = dr := mv.drawn
    obtain rfl : os' = os := mv.os
    refine wpAny_pure ?_
    show wpAny _ _ (ret Value.none) _ _ _
    refine wpAny_pure ⟨rfl, h h' tk' c' sr fun b o e => ?_⟩
    have b0 : b < hp.objs.size := Heap.lt_size e
    refine mv.heap b o (fun z => ?_) (Heap.get?_push_of_some _ (Heap.get?_push_of_some _ e))
    have z' : b ∈ [hp.objs.size, (hp.push (newSet w)).objs.size] := z
    rw [size1] at z'
    simp only [List.mem_cons, List.not_mem_nil, or_false] at z'
    rcases z' with z' | z'
    · exact absurd b0 (by rw [z']; exact Nat.lt_irrefl _)
    · exact absurd b0 (by rw [z']; exact Nat.not_lt.mpr (Nat.le_succ _))
theorem nodup_sub {α : Type} [DecidableEq α] : ∀ {xs L : List α}, xs.Nodup → (∀ x ∈ xs, x ∈ L) → xs.length ≤ L.length
  | [], L, _, _ => Nat.zero_le _
  | x :: xs, L, hn, hs => by
    have h1 := List.nodup_cons.mp hn
    have hx := hs x (by simp)
    have := nodup_sub (L := L.erase x) h1.2 fun y hy => (List.mem_erase_of_ne (fun e : y = x => h1.1 (e ▸ hy))).mpr (hs y (by simp [hy]))
    rw [List.length_erase_of_mem hx] at this
    have := List.length_pos_of_mem hx
    simp only [List.length_cons]
    omega
theorem setR_card {h : Heap} {a : Addr} {S : Int → Bool} {n : Nat} {L : List Int} (R : SetR w h a S n) (hL : ∀ k, S k = true → k ∈ L) : n ≤ L.length := by
  obtain ⟨o, es, ep, t, _, _, _, _, nd, hm, _, _, hn, _⟩ := R
  have := nodup_sub (L := L) nd fun k hk => hL k ((hm k).mpr hk)
  rw [List.length_map, Array.length_toList, hn] at this
  exact this
end
end L2
namespace DL
open PySem PySem.Spec L2
section
variable {X : Cx} {W : WC} {u1 : Nat} {e : Expr} {pos : Pos} {mas : MA}
/-- set(xs), xs a list of ints -/
def rSetL (K : PySem.W.Frag) (w : World) : List V → Hp → VK → Prop := fun vs H Q => ∃ (l : Addr) (ns : List Int), vs = [V.ref l] ∧ SqL K H l (ns.map V.int) ∧ ns.length ≤ 4000 ∧ ∀ a c, H a = none → (∀ L : List Int, (∀ k ∈ ns, k ∈ L) → c ≤ L.length) → Q (.ref a) (upd H a (SetO w a (fun j => decide (j ∈ ns)) c))
theorem cr_setL (hc : X.calm = true) : CallR X (.type "set") (rSetL X.K X.w) := by
  intro pins s σ H vs us Q I r h
  obtain ⟨l, ns, rfl, hq, h64, q⟩ := h
  rw [Vals.ref1 r]
  obtain ⟨its, rv, pl, hz⟩ := I.list hq
  refine call_set_lst ns (I.ok.hd hc) pl.isList (by simpa using rv.ints) (by unfold scanBound; omega) fun h' tk c R k => ?_
  exact ⟨.ref s.heap.objs.size, upd H s.heap.objs.size (SetO X.w s.heap.objs.size (fun j => decide (j ∈ ns)) c), I.laid (t' := tk) k (Nat.le_refl _) (setO_new R), rfl, q _ c (I.hok.fresh (Nat.le_refl _)) fun L hL => setR_card R fun k hk => hL k (of_decide_eq_true hk)⟩
def oSortSetL : D1 := fun x R => match x.rd with
  | some xs => match intsOf xs with
    | some ns => ns.length ≤ 4000 ∧ (∃ L : List Int, L.length < 64 ∧ ∀ k ∈ ns, k ∈ L) ∧ ∀ ms : List Int, ms.Pairwise (· < ·) → (∀ k, k ∈ ms ↔ k ∈ ns) → R (.own (ms.map .int))
    | none => False
  | none => False
theorem de_sortSetL {p p2 q : Pos} (hc : X.calm = true) (hg : Gl X "sorted") (hm : X.mg "sorted" = none) (hg2 : Gl X "set") (hm2 : X.mg "set" = none) (ha : DA X W [e] mas u1)
    (he2 : starEach [e] X.env = (false, eval e X.env) :: starEach [] X.env := by rfl) (hpl : (backTo pos (starEach [] X.env)).any (·.1) = false := by rfl) :
    DE X W (.Call (.Name "sorted" p) [.Call (.Name "set" p2) [e] [] q] [] pos) (mCB (o1 oSortSetL) mas) u1 :=
  ⟨PE.imp (pe_callB (cr_sortedSet hc) hg hm (by decide +kernel) (pa_cons (pe_callTy (cr_setL hc) hg2 hm2 (by decide +kernel) ha.pa (by decide) (by decide) he2 (by rfl)) pa_nil) (by decide) (by decide) (by rfl) hpl) fun σ H Q q => by
    have h := args_lift (X := X) (W := W) (u := u1) (mas := mas) (r := fun vs H Q => rSetL X.K X.w vs H fun x H1 => rSortedSet X.w [x] H1 Q) (o := o1 oSortSetL) (on_1 fun G F δ σ H v x R Q hK g hx h k => by
      unfold oSortSetL at h
      split at h
      · rename_i xs hxs
        split at h
        · rename_i ns hns
          obtain ⟨l, vs, rfl, h1, h2⟩ := rd_of hx g.fh hxs
          rw [intsOf_eq hns] at h2
          rw [h2.ints, hK] at h1
          obtain ⟨L, hL1, hL2⟩ := h.2.1
          refine ⟨l, ns, rfl, h1, h.1, fun a c hn hcn => ⟨a, _, c, rfl, upd_same, Nat.lt_of_le_of_lt (hcn L hL2) hL1, fun ms p hp hs hl hpn => ?_⟩⟩
          exact k _ (h.2.2 ms hp fun j => by rw [hs j]; exact decide_eq_true_iff) _ _ _ ((g.grow hn).newO hpn (atL_ints _))
        · exact h.elim
      · exact h.elim) σ H Q q
    exact h⟩
end
end DL

namespace DL
open PySem PySem.Spec L2
/-! ## slices as take and drop -/
theorem six_pos {n d : Nat} {j : Int} (h : 0 ≤ j) : HT.sIx n d (some j) = min j.toNat n := by
  show (if j < 0 then _ else _) = _
  rw [if_neg (by omega)]
theorem six_neg {n d : Nat} {j : Int} (h : j < 0) : HT.sIx n d (some j) = n - (-j).toNat := by
  show (if j < 0 then _ else _) = _
  rw [if_pos h]
  omega
theorem six_none {n d : Nat} : HT.sIx n d none = d := rfl
theorem cut_pre {xs : List PyData} {j : Int} (h : 0 ≤ j) : cutD xs none (some j) = xs.take j.toNat := by
  unfold cutD
  rw [six_none, six_pos h, List.drop_zero, Nat.sub_zero]
  rcases Nat.le_total j.toNat xs.length with q | q
  · rw [Nat.min_eq_left q]
  · rw [Nat.min_eq_right q, List.take_of_length_le (Nat.le_refl _), List.take_of_length_le q]
theorem cut_from {xs : List PyData} {j : Int} (h : 0 ≤ j) : cutD xs (some j) none = xs.drop j.toNat := by
  unfold cutD
  rw [six_none, six_pos h]
  rcases Nat.le_total j.toNat xs.length with q | q
  · rw [Nat.min_eq_left q, List.take_of_length_le (by rw [List.length_drop]; exact Nat.le_refl _)]
  · rw [Nat.min_eq_right q, List.drop_eq_nil_of_le (Nat.le_refl _), List.drop_eq_nil_of_le q, List.take_nil]
theorem cut_last {xs : List PyData} {j : Int} (h : j < 0) : cutD xs (some j) none = xs.drop (xs.length - (-j).toNat) := by
  unfold cutD
  rw [six_none, six_neg h, List.take_of_length_le (by rw [List.length_drop]; exact Nat.le_refl _)]
theorem cut_init {xs : List PyData} {j : Int} (h : j < 0) : cutD xs none (some j) = xs.take (xs.length - (-j).toNat) := by
  unfold cutD
  rw [six_none, six_neg h, List.drop_zero, Nat.sub_zero]
theorem cut_mid {xs : List PyData} {i j : Int} (hi : 0 ≤ i) (hj : 0 ≤ j) : cutD xs (some i) (some j) = (xs.drop i.toNat).take (j.toNat - i.toNat) := by
  unfold cutD
  rw [six_pos hi, six_pos hj]
  rcases Nat.le_total i.toNat xs.length with q | q
  · rw [Nat.min_eq_left q]
    rcases Nat.le_total j.toNat xs.length with q2 | q2
    · rw [Nat.min_eq_left q2]
    · rw [Nat.min_eq_right q2, List.take_of_length_le (by rw [List.length_drop]; exact Nat.le_refl _), List.take_of_length_le (by rw [List.length_drop]; omega)]
  · rw [Nat.min_eq_right q, List.drop_eq_nil_of_le (Nat.le_refl _), List.drop_eq_nil_of_le q, List.take_nil, List.take_nil]
theorem atI_last {xs : List PyData} {z : PyData} (h : xs.getLast? = some z) : atI xs (-1) = some z := by
  have hx : xs ≠ [] := fun e => by rw [e] at h; cases h
  have h0 : 0 < xs.length := List.length_pos_iff.mpr hx
  rw [List.getLast?_eq_getElem?] at h
  have := atI_end (f := fun d : PyData => d) (l := xs) h
  rwa [List.map_id'] at this
end DL

namespace DL
open PySem PySem.Spec L2
/-! ## xs == [], whatever xs holds -/
section
variable {X : Cx} {W : WC} {u1 u2 : Nat} {a b : Expr} {pos : Pos} {ma mb : ME}
def rEqE (K : PySem.W.Frag) (neg : Bool) : R2 := fun x y H Q => (∃ l m vs ws, x = .ref l ∧ y = .ref m ∧ SqL K H l vs ∧ SqL K H m ws ∧ vs.length ≠ ws.length ∧ Q (.bl neg) H) ∨ (∃ l m vs, x = .ref l ∧ y = .ref m ∧ SqT K H l vs ∧ SqT K H m [] ∧ Q (.bl (if neg then !vs.isEmpty else vs.isEmpty)) H) ∨ rEqB K neg x y H Q
theorem op_eqE (hu : X.A.units + 64 < cLine) : OpR X (compareOp .Eq) (rEqE X.K false) := by
  intro pins s σ H x y v u Q I rx ry h
  rcases h with ⟨l, m, vs, ws, rfl, rfl, h1, h2, hne, q⟩ | ⟨l, m, vs, rfl, rfl, h1, h2, q⟩ | h
  · obtain ⟨its, rv, pl, hz⟩ := I.list h1
    obtain ⟨jts, rw', pm, hy⟩ := I.list h2
    cases rx
    cases ry
    have e1 := rv.length
    have e2 := rw'.length
    exact SeqAt.RcAt.lists_lengths pl.isList pm.isList (by simp; omega) (by omega) _ _ _ _ ⟨.bl _, H, I, rfl, q⟩
  · obtain ⟨its, rv, pl, hz⟩ := I.tuple h1
    obtain ⟨jts, rw', pm, hy⟩ := I.tuple h2
    cases rx
    cases ry
    have e1 := rv.length
    have e2 : jts = [] := by
      have := rw'.length
      exact List.eq_nil_of_length_eq_zero (by simpa using this.symm)
    subst e2
    refine SeqAt.RcAt.tuples (e := fun _ => true) pl pm (by omega) (fun j h1 h2 => absurd h2 (by simp)) _ _ _ _ ⟨.bl _, H, I, ?_, q⟩
    cases vs with
    | nil =>
      have : its = [] := List.eq_nil_of_length_eq_zero (by simpa using e1.symm)
      subst this
      rfl
    | cons a r =>
      cases its with
      | nil => simp at e1
      | cons b t => simp; rfl
  · exact op_eqB hu pins s σ H x y v u Q I rx ry h
theorem op_neE (hu : X.A.units + 64 < cLine) : OpR X (compareOp .NotEq) (rEqE X.K true) := by
  intro pins s σ H x y v u Q I rx ry h
  rcases h with ⟨l, m, vs, ws, rfl, rfl, h1, h2, hne, q⟩ | ⟨l, m, vs, rfl, rfl, h1, h2, q⟩ | h
  · obtain ⟨its, rv, pl, hz⟩ := I.list h1
    obtain ⟨jts, rw', pm, hy⟩ := I.list h2
    cases rx
    cases ry
    have e1 := rv.length
    have e2 := rw'.length
    exact SeqAt.RcNeAt.lists_lengths pl.isList pm.isList (by simp; omega) (by omega) _ _ _ _ ⟨.bl _, H, I, rfl, q⟩
  · obtain ⟨its, rv, pl, hz⟩ := I.tuple h1
    obtain ⟨jts, rw', pm, hy⟩ := I.tuple h2
    cases rx
    cases ry
    have e1 := rv.length
    have e2 : jts = [] := by
      have := rw'.length
      exact List.eq_nil_of_length_eq_zero (by simpa using this.symm)
    subst e2
    refine SeqAt.RcNeAt.tuples (e := fun _ => true) pl pm (by omega) (fun j h1 h2 => absurd h2 (by simp)) _ _ _ _ ⟨.bl _, H, I, ?_, q⟩
    cases vs with
    | nil =>
      have : its = [] := List.eq_nil_of_length_eq_zero (by simpa using e1.symm)
      subst this
      rfl
    | cons a r =>
      cases its with
      | nil => simp at e1
      | cons b t => simp; rfl
  · exact op_neB hu pins s σ H x y v u Q I rx ry h
def oEqE (neg : Bool) : D2 := fun x y R => match x.lst, y.lst with
  | some xs, some [] => R (.d (.bool (if neg then !xs.isEmpty else xs.isEmpty)))
  | _, _ => match x, y with
    | .d (.tuple xs), .d (.tuple []) => R (.d (.bool (if neg then !xs.isEmpty else xs.isEmpty)))
    | _, _ => oEq neg x y R
theorem lst_pd {x : DV} {xs : List PyData} (h : x.lst = some xs) : x.pd = some (.list xs) := by
  cases x with
  | d y =>
    cases y with
    | list ys => cases h; rfl
    | _ => cases h
  | own ys => cases h; rfl
  | bor ys => cases h; rfl
  | _ => cases h
theorem o2_eqE {neg : Bool} : Op2 X (rEqE X.K neg) (oEqE neg) := by
  intro G F δ σ H v u x y R Q hK g hx hy h k
  unfold oEqE at h
  split at h
  · rename_i xs e1 e2
    obtain ⟨l, vs, rfl, h1, h2⟩ := lst_of hx g.fh e1
    obtain ⟨m, ws, rfl, h3, h4⟩ := lst_of hy g.fh e2
    cases xs with
    | cons z zs =>
      refine .inl ⟨l, m, vs, ws, rfl, rfl, SqL.of h1, SqL.of h3, ?_, ?_⟩
      · rw [h2.length, h4.length]
        simp
      · have e : (if neg then !(z :: zs).isEmpty else (z :: zs).isEmpty) = neg := by cases neg <;> rfl
        rw [e] at h
        exact k _ h (.bl neg) F H (g.pushD (.bl _))
    | nil =>
      refine .inr (.inr (o2_eq G F δ σ H _ _ x y R Q hK g hx hy ?_ k))
      unfold oEq
      rw [lst_pd e1, lst_pd e2]
      have e : PyData.eqv (.list []) (.list []) = true := by simp [PyData.eqv, PyData.eqvAll]
      refine ⟨by decide +kernel, by decide +kernel, ?_⟩
      rw [e]
      cases neg <;> exact h
  · split at h
    · rename_i xs _
      obtain ⟨l, vs, rfl, h1, h2⟩ := tup_of hx g.fh
      obtain ⟨m, ws, rfl, h3, h4⟩ := tup_of hy g.fh
      cases h4
      rw [hK] at h1 h3
      refine .inr (.inl ⟨l, m, vs, rfl, rfl, h1, h3, ?_⟩)
      have e : vs.isEmpty = xs.isEmpty := by cases h2 <;> rfl
      rw [e]
      exact k _ h (.bl _) F H (g.pushD (.bl _))
    · exact .inr (.inr (o2_eq G F δ σ H v u x y R Q hK g hx hy h k))
theorem de_eqE (cx : CtxU X) (ha : DE X W a ma u1) (hb : DE X W b mb u2) : DE X W (.Compare a [.Eq] [b] pos) (mBin (oEqE false) ma mb) (u1 + u2) := de_cmp (op_eqE cx.u64) o2_eqE ha hb (nomark _)
theorem de_neE (cx : CtxU X) (ha : DE X W a ma u1) (hb : DE X W b mb u2) : DE X W (.Compare a [.NotEq] [b] pos) (mBin (oEqE true) ma mb) (u1 + u2) := de_cmp (op_neE cx.u64) o2_eqE ha hb (nomark _)
theorem dt_eqE (cx : CtxU X) (ha : DE X W a ma u1) (hb : DE X W b mb u2) : DT X W (.Compare a [.Eq] [b] pos) (mB (mBin (oEqE false) ma mb)) (u1 + u2) := dt_cmp (op_eqE cx.u64) o2_eqE ha hb (nomark _)
theorem dt_neE (cx : CtxU X) (ha : DE X W a ma u1) (hb : DE X W b mb u2) : DT X W (.Compare a [.NotEq] [b] pos) (mB (mBin (oEqE true) ma mb)) (u1 + u2) := dt_cmp (op_neE cx.u64) o2_eqE ha hb (nomark _)
end
section
variable {xs : List PyData} {neg : Bool} {R : DV → Prop}
theorem oEqE_l : oEqE false (.d (.list xs)) (.own []) R = R (.d (.bool xs.isEmpty)) := rfl
theorem oEqE_o : oEqE false (.own xs) (.own []) R = R (.d (.bool xs.isEmpty)) := rfl
theorem oEqE_b : oEqE false (.bor xs) (.own []) R = R (.d (.bool xs.isEmpty)) := rfl
theorem oNeE_l : oEqE true (.d (.list xs)) (.own []) R = R (.d (.bool (!xs.isEmpty))) := rfl
theorem oNeE_o : oEqE true (.own xs) (.own []) R = R (.d (.bool (!xs.isEmpty))) := rfl
theorem oNeE_b : oEqE true (.bor xs) (.own []) R = R (.d (.bool (!xs.isEmpty))) := rfl
theorem oEqE_t : oEqE false (.d (.tuple xs)) (.d (.tuple [])) R = R (.d (.bool xs.isEmpty)) := rfl
theorem oNeE_t : oEqE true (.d (.tuple xs)) (.d (.tuple [])) R = R (.d (.bool (!xs.isEmpty))) := rfl
end
end DL

namespace DL
open PySem PySem.Spec L2
/-! ## small facts that many parts want -/
theorem at3 {a b c d : PyData} {l : List PyData} : atI (a :: b :: c :: d :: l) 3 = some d := atI_nat (j := 3) rfl
theorem at4 {a b c d e : PyData} {l : List PyData} : atI (a :: b :: c :: d :: e :: l) 4 = some e := atI_nat (j := 4) rfl
theorem at5 {a b c d e f : PyData} {l : List PyData} : atI (a :: b :: c :: d :: e :: f :: l) 5 = some f := atI_nat (j := 5) rfl
theorem oBools_map {f : List Bool → Bool} {bs : List Bool} {R : DV → Prop} : oBools f (.own (bs.map PyData.bool)) R = R (.d (.bool (f bs))) := by
  unfold oBools
  simp only [DV.lst, boolsOf_map]
theorem eqv_same (a : Str) : PyData.eqv (.str a) (.str a) = true := by simp [PyData.eqv]
theorem natD_ints (ks : List Nat) : ks.map natD = (ks.map fun k : Nat => (k : Int)).map PyData.int := by rw [List.map_map]; rfl
theorem shaped_nats (ks : List Nat) : SeqAt.shaped (.list (ks.map natD)) = true := by rw [natD_ints]; exact shaped_ints _
theorem shaped_natsT (ks : List Nat) : SeqAt.shaped (.tuple (ks.map natD)) = true := by rw [natD_ints]; exact shaped_intsT _
theorem range_nats (lo m : Nat) : rangeD (lo : Nat) m = ((List.range m).map fun k => lo + k).map natD := by
  unfold rangeD
  rw [List.map_map]
  apply List.map_congr_left
  intro a _
  show PyData.int _ = PyData.int _
  congr 1
theorem ne_nil {ws : List Nat} (h : ws ≠ []) : PyData.eqv (.list (ws.map natD)) (.list []) = false := by
  cases ws with
  | nil => exact absurd rfl h
  | cons a r => simp [PyData.eqv, PyData.eqvAll]
theorem nodup_le {fs : List Nat} {n : Nat} (hn : fs.Nodup) (h : ∀ k ∈ fs, k < n) : fs.length ≤ n := by
  have := L2.nodup_sub (L := List.range n) hn fun x hx => List.mem_range.mpr (h x hx)
  simpa using this
theorem inD {ks : List Nat} {k : Nat} : ((ks.map natD).any fun z => PyData.eqv z (.int (k : Nat))) = decide (k ∈ ks) := by
  rw [natD_ints, any_ints]
  have e2 : ((k : Nat) : Int) ∈ (ks.map fun k : Nat => (k : Int)) ↔ k ∈ ks := by
    rw [List.mem_map]
    constructor
    · rintro ⟨a, ha, hk⟩
      have : a = k := by omega
      exact this ▸ ha
    · exact fun h => ⟨k, h, rfl⟩
  exact decide_eq_decide.mpr e2
theorem filtB (ks : List Nat) (p : Nat → Bool) : (ks.map natD).filterMap (onInt fun i => if p i.toNat then some (natD i.toNat) else none) = (ks.filter p).map natD := by
  induction ks with
  | nil => rfl
  | cons a r ih =>
    simp only [List.map_cons, List.filterMap_cons, natD, onInt, Int.toNat_natCast, List.filter_cons] at ih ⊢
    rw [ih]
    by_cases h : p a = true
    · rw [h]; rfl
    · simp only [Bool.not_eq_true] at h; rw [h]; rfl
/-- a cut between two statements: what holds there -/
theorem seq_gen {m1 m2 : MS} {ex : XD} {E : DEnds} {δ : Env} (I : Env → Prop) (h2 : ∀ δ', I δ' → m2 ex E δ') (h1 : ∀ K : Env → Prop, (∀ δ', I δ' → K δ') → m1 ex { E with nx := K } δ) : mSeq m1 m2 ex E δ := h1 _ h2
/-- every item is so -/
def AllP (P : PyData → Prop) (xs : List PyData) : Prop := ∀ x ∈ xs, P x
section
variable {P : PyData → Prop} {xs ys : List PyData} {x : PyData}
theorem AllP.nil : AllP P [] := fun x h => by cases h
theorem AllP.one (h : P x) : AllP P [x] := fun y hy => by cases List.mem_singleton.mp hy; exact h
theorem AllP.cons (h : P x) (t : AllP P xs) : AllP P (x :: xs) := fun y hy => by
  rcases List.mem_cons.mp hy with rfl | q
  · exact h
  · exact t y q
theorem AllP.app (h : AllP P xs) (t : AllP P ys) : AllP P (xs ++ ys) := fun y hy => by
  rcases List.mem_append.mp hy with q | q
  · exact h y q
  · exact t y q
theorem AllP.take (h : AllP P xs) (n : Nat) : AllP P (xs.take n) := fun y hy => h y (List.mem_of_mem_take hy)
theorem AllP.drop (h : AllP P xs) (n : Nat) : AllP P (xs.drop n) := fun y hy => h y (List.mem_of_mem_drop hy)
theorem AllP.rev (h : AllP P xs) : AllP P xs.reverse := fun y hy => h y (List.mem_reverse.mp hy)
theorem AllP.imp {Q : PyData → Prop} (h : AllP P xs) (f : ∀ x, P x → Q x) : AllP Q xs := fun y hy => f y (h y hy)
end
/-- a comprehension whose items are not told but for a property -/
theorem lc_all {g : MG} {tt : MT} {te : ME} {δ : Env} {R : DV → Prop} (P : PyData → Prop) : ∀ (ds acc : List PyData),
    (∀ d ∈ ds, ∀ (K1 : PyData → Prop) (K0 : Prop), (∀ z, P z → K1 z) → K0 → g (.d d) δ fun δ' => tt ex0 δ' fun c => (c = true → te ex0 δ' fun y => match y.val with
      | some z => K1 z
      | none => False) ∧ (c = false → K0)) → acc.length + ds.length ≤ sizeLine → (∀ zs : List PyData, AllP P zs → zs.length ≤ ds.length → R (.own (acc ++ zs))) → lcRun g tt te δ R ds acc
  | [], acc, _, _, h => by
    unfold lcRun
    have := h [] AllP.nil (Nat.le_refl _)
    simpa using this
  | d :: ds, acc, hs, hz, h => by
    unfold lcRun
    rw [List.length_cons] at hz
    refine hs d (by simp) (fun z => acc.length < sizeLine ∧ lcRun g tt te δ R ds (acc ++ [z])) (lcRun g tt te δ R ds acc) (fun z hP => ⟨by omega, ?_⟩) ?_
    · refine lc_all P ds _ (fun d hd => hs d (by simp [hd])) (by simp; omega) fun zs h1 h2 => ?_
      have := h (z :: zs) (AllP.cons hP h1) (by simp; exact h2)
      simpa using this
    · exact lc_all P ds _ (fun d hd => hs d (by simp [hd])) (by omega) fun zs h1 h2 => h zs h1 (by simp; omega)
/-- one item for each, in a relation to it -/
theorem lc_rel {g : MG} {tt : MT} {te : ME} {δ : Env} {R : DV → Prop} (P : Nat → PyData → PyData → Prop) : ∀ (ds acc : List PyData) (n : Nat),
    (∀ i d, ds[i]? = some d → ∀ (K1 : PyData → Prop) (K0 : Prop), (∀ z, P (n + i) d z → K1 z) → g (.d d) δ fun δ' => tt ex0 δ' fun c => (c = true → te ex0 δ' fun y => match y.val with
      | some z => K1 z
      | none => False) ∧ (c = false → K0)) → acc.length + ds.length ≤ sizeLine → (∀ zs : List PyData, zs.length = ds.length → (∀ i d z, ds[i]? = some d → zs[i]? = some z → P (n + i) d z) → R (.own (acc ++ zs))) → lcRun g tt te δ R ds acc
  | [], acc, n, _, _, h => by
    unfold lcRun
    have := h [] rfl fun i d z e => by simp at e
    simpa using this
  | d :: ds, acc, n, hs, hz, h => by
    unfold lcRun
    rw [List.length_cons] at hz
    refine hs 0 d (by simp) (fun z => acc.length < sizeLine ∧ lcRun g tt te δ R ds (acc ++ [z])) (lcRun g tt te δ R ds acc) (fun z hP => ⟨by omega, ?_⟩)
    refine lc_rel P ds _ (n + 1) (fun i d' hd => by
      have := hs (i + 1) d' (by simpa using hd)
      rwa [show n + (i + 1) = n + 1 + i by omega] at this) (by simp; omega) fun zs h1 h2 => ?_
    have := h (z :: zs) (by simp [h1]) fun i d' z' e1 e2 => by
      cases i with
      | zero => simp at e1 e2; subst e1; subst e2; exact hP
      | succ i =>
        have := h2 i d' z' (by simpa using e1) (by simpa using e2)
        rwa [show n + 1 + i = n + (i + 1) by omega] at this
    simpa using this
end DL

namespace DL
open PySem PySem.Spec L2 StX
/-! ## def x(*v, k=d): calls with and without the keyword; *e in a display -/
/-- how such a def binds: dd is the default's value, D where it stands -/
structure BindSK (K : PySem.W.Frag) (fd : FuncData) (pk pv : Str) (D : Addr) : Prop where
  without : ∀ (du : Value) (rest : List Value), PySem.W.nsIn K D pk = some (some du) → ∃ (β γ : Type) (k1 : Option Value → Sem β) (k2 : β → Sem γ) (k3 : γ → Sem (List (Str × Value))) (a : β), bindArgs fd ⟨rest, []⟩ = ((nsGet D pk >>= k1) >>= k2) >>= k3 ∧ k1 (some du) = pure a ∧ (k2 a >>= k3) = (newTuple rest >>= fun t => pure [(pk, du), (pv, t)])
  with_ : ∀ (u : Value) (rest : List Value), bindArgs fd ⟨rest, [(pk, u)]⟩ = (newTuple rest >>= fun t => pure [(pk, u), (pv, t)])
structure FunSK (K : PySem.W.Frag) (x qual : Str) (st : Stmt) (f : Addr) (pk pv : Str) (dv : V) : Prop where
  ex : ∃ (oc : Value) (od : Option Addr) (D : Addr) (doc pm : Value) (an : Option Addr) (cdv ct du : Value) (osl : Array (Option Value)),
    K.lookup f = some ⟨oc, od, .func (PySem.W.fnOf x qual (L2.defArgs st) (L2.defBody st) (L2.defScope st) .none (.ref D) doc pm an cdv ct), osl⟩ ∧ PySem.W.codeIn K cdv qual = true ∧ PySem.W.nsIn K D pk = some (some du) ∧ RelV dv du ∧
    BindSK K (PySem.W.fnOf x qual (L2.defArgs st) (L2.defBody st) (L2.defScope st) .none (.ref D) doc pm an cdv ct) pk pv D
  kp : PySem.W.keepIn K (.ref f) = true
structure FnSK (P : Program) (w : World) (K : PySem.W.Frag) (mg : Str → Option Value) (base : Heap) (k : Nat) (f : Addr) (pk : Str) (dv : V) (sp : Sp) : Prop where
  run : ∀ (A : Around) (outer : List PySem.Env) (s : Shared) (H : Hp) (us : List Value) (vs : List V) (kw : List (Str × Value)) (gv : V) (Q : VK) (E : XK), A.guards = some [] → Room k A → Env0 P w K mg base A outer s H → Vals vs us → ((kw = [] ∧ gv = dv) ∨ ∃ u, kw = [(pk, u)] ∧ RelV gv u) → sp (gv :: vs) H Q E →
    codeAny (model P w) A (.call (.ref f) ⟨us, kw⟩) (CR (L2.CX P w) outer P w H s Q E) s
section
variable {P : Program} {w : World} {K : PySem.W.Frag} {mg : Str → Option Value} {base : Heap}
theorem fnSK_of {x qual pk pv : Str} {st : Stmt} {f : Addr} {dv : V} {N : List Str} {k : Nat} {sp : Sp} (T : FunSK K x qual st f pk pv dv) (S : FnScope N [pk, pv] (L2.defScope st))
    (body : ∀ (cdv : Value) (A : Around) (outer : List PySem.Env) (s : Shared) (H : Hp) (vs : List V) (Q : VK) (E : XK), A.guards = some [] → Room k (A.deeper (PyProof.Rows.envOfC qual (L2.defScope st) s.heap.objs.size f cdv)) → sp vs H Q E →
      ∃ t, PSs (cxOf (L2.CX P w) P w K mg base N qual (L2.defScope st) f cdv A outer s H E) (L2.defBody st) t ∧ t { nx := fun _ H' => Q .non H', rt := Q } (start N vs) H) :
    FnSK P w K mg base (k + 1) f pk dv (fun vs H Q E => ∃ gv rest, vs = gv :: rest ∧ rest.length ≤ sizeLine ∧ ∀ p, H p = none → sp [gv, V.ref p] (upd H p (.tup rest)) Q E) := by
  obtain ⟨oc, od, D, doc, pm, an, cdv, ct, du, osl, lk, hcd, hD, rD, hb⟩ := T.ex
  refine ⟨fun A outer s H us vs kw gv Q E hg hr e0 r hkw hsp => ?_⟩
  obtain ⟨gv', rest, e, hz, hq⟩ := hsp
  obtain ⟨rfl, rfl⟩ := List.cons.inj e
  have nw : H s.heap.objs.size = none := e0.hok.fresh (Nat.le_refl _)
  have l2 : us.length ≤ sizeLine := by rw [← r.length]; exact hz
  have kin : K.In s.heap := e0.mod.kin.keeps fun b o e => (e0.bs b o e).1
  refine run_bnd (ps := [pk, pv]) lk hcd S hr e0 (G := fun zs H2 => ∃ p, H p = none ∧ zs = [gv, V.ref p] ∧ H2 = upd H p (.tup vs)) (fun A' Ex Q' h => ?_) fun s2 H2 zs hG hr' => ?_
  · have fin : ∀ g : Value, RelV gv g → wpAny (model P w) A' (newTuple us >>= fun t => pure [(pk, g), (pv, t)]) Q' Ex s := fun g rg => by
      refine wpAny_bind (wpAny_newTuple (wpAny_pure ?_) l2)
      have ob : ObjOk P w (upd H s.heap.objs.size (.tup vs)) (s.heap.push ({ cls := .type "tuple", data := .seq us.toArray } : Obj)) s.heap.objs.size (.tup vs) := ⟨hz, us, r, ⟨_, Heap.get?_push_size _ rfl, rfl, _, rfl⟩⟩
      have ul := un_laid (fs := frs outer) (s := s) (o := ({ cls := .type "tuple", data := .seq us.toArray } : Obj)) (u := .tup vs) nw
      exact h _ _ [gv, V.ref s.heap.objs.size] [g, Value.ref s.heap.objs.size] (env0_laid e0 ob) ul rfl (fun e s' => cxUp outer s H _ _ E e s' ul (fun b o z => Heap.get?_push_of_some _ z) rfl) (.cons rg (.cons rfl .nil)) rfl ⟨_, nw, rfl, rfl⟩
    rcases hkw with ⟨rfl, rfl⟩ | ⟨u, rfl, ru⟩
    · obtain ⟨β, γ, k1, k2, k3, a, e1, e2, e3⟩ := hb.without du us hD
      rw [e1, bind_assoc]
      refine wpAny_bind (wpAny_bind (PySem.W.looks_nsIn (M := model P w) kin hD A' _ Ex s (fun b o e => e) ?_))
      rw [e2]
      refine wpAny_pure ?_
      show wpAny _ _ (k2 a >>= k3) _ _ _
      rw [e3]
      exact fin du rD
    · rw [hb.with_ u us]
      exact fin u ru
  · obtain ⟨p, hp, rfl, rfl⟩ := hG
    exact body cdv A outer s2 _ _ Q E hg hr' (hq p hp)
/-- the promise as data: the keyword's value first -/
structure DFnSK (P : Program) (w : World) (K : PySem.W.Frag) (mg : Str → Option Value) (base : Heap) (CK : CKT) (x pk : Str) (dd : PyData) (k u : Nat) (mf : MF) : Prop where
  ex : ∃ f dv, mg x = some (.ref f) ∧ PySem.W.keepIn K (.ref f) = true ∧ (∀ F, At K F dv dd) ∧ FnSK P w K mg base k f pk dv (spS K mg CK u mf)
theorem dfnSK_of {u : Nat} {x qual pk pv : Str} {st : Stmt} {f : Addr} {dv : V} {dd : PyData} {N : List Str} {k : Nat} {m : MS} {mf : MF} {CK : CKT} (hm : mg x = some (.ref f)) (hdv : ∀ F, At K F dv dd) (T : FunSK K x qual st f pk pv dv) (S : FnScope N [pk, pv] (L2.defScope st))
    (body : ∀ (cdv : Value) (A : Around) (outer : List PySem.Env) (s : Shared) (H : Hp) (E : XK), Ctx (cxOf (L2.CX P w) P w K mg base N qual (L2.defScope st) f cdv A outer s H E) ⟨fun cls d _ H => E cls d H, CK⟩ k →
      DSs (cxOf (L2.CX P w) P w K mg base N qual (L2.defScope st) f cdv A outer s H E) ⟨fun cls d _ H => E cls d H, CK⟩ (L2.defBody st) m u)
    (post : ∀ as R ex, mf as R ex → ∃ w ds, as = w :: ds.map DV.d ∧ ds.length ≤ sizeLine ∧ bodyD N.length m [w, .d (.tuple ds)] R ex) : DFnSK P w K mg base CK x pk dd (k + 1) u mf := by
  have hbody := fnSK_of (P := P) (w := w) (mg := mg) (base := base) (k := k) (sp := fun vs H Q E => ∃ (G : Gm) (F : Hp) (as : List DV) (R : DV → Prop) (ex : DExc → Prop), G.K = K ∧ (CK G.C G.cv G.J G.lim ∧ G.n + u ≤ G.lim) ∧ as.length = vs.length ∧ (∀ x ∈ as, x.arg = true) ∧ Good G F (as.map some) (vs.map some) H ∧ bodyD N.length m as R ex ∧
    (∀ r, R r → r.arg = true → ∀ v F' H', Good (G.up u) F' [some r] [some v] H' → Q v H') ∧ (∀ e, ex e → ∀ b cls d F' H', b ≤ u → Good (G.up b) F' [] [] H' → ExcAt K mg F' H' e cls d → E cls d H')) T S fun cdv A outer s H vs Q E hg hr q => by
      obtain ⟨G, F, as, R, ex, hK, hck, hl, harg, g, h, hR, hE⟩ := q
      exact ⟨_, (body cdv A outer s H E ⟨hg, hr, takes_of rfl rfl rfl rfl⟩).pss, lift_start hK hck hl harg g h hR hE⟩
  refine ⟨f, dv, hm, T.kp, hdv, ⟨fun A outer s H us vs kw gv Q E hg hr e0 r hkw q => hbody.run A outer s H us vs kw gv Q E hg hr e0 r hkw ?_⟩⟩
  obtain ⟨G, F, as, R, ex, hK, hck, hl, harg, g, h, hR, hE⟩ := q
  obtain ⟨w, ds, rfl, hz, hp⟩ := post as R ex h
  have ld : ds.length = vs.length := by simpa using hl
  have e2 : (ds.map DV.d).map some = ds.map (fun d => some (DV.d d)) := by simp
  have g2 : Good G F ([some w] ++ ds.map (fun d => some (DV.d d))) ([some gv] ++ vs.map some) H := by
    rw [← e2]
    exact g
  have hat := atL_of ld g2
  have g3 := g2.cut (by simp [ld])
  refine ⟨gv, vs, rfl, by rw [← ld]; exact hz, fun p hp0 => ?_⟩
  have g4 := g3.newT hp0 hat
  refine ⟨G, _, [w, .d (.tuple ds)], R, ex, hK, hck, rfl, fun y hy => ?_, by simpa using g4, hp, hR, hE⟩
  rcases List.mem_cons.mp hy with rfl | hy
  · exact harg _ (by simp)
  · cases List.mem_singleton.mp hy
    rfl
theorem DFnSK.le {x pk : Str} {dd : PyData} {k u u' : Nat} {mf : MF} {CK : CKT} (h : DFnSK P w K mg base CK x pk dd k u mf) (hu : u ≤ u') : DFnSK P w K mg base CK x pk dd k u' mf := by
  obtain ⟨f, dv, h1, h2, h3, h5⟩ := h
  refine ⟨f, dv, h1, h2, h3, ⟨fun A outer s H us vs kw gv Q E hg hr e0 r hk q => h5.run A outer s H us vs kw gv Q E hg hr e0 r hk ?_⟩⟩
  obtain ⟨G, F, as, R, ex, q2, q3, q4, q5, q6, q7, q8, q9⟩ := q
  exact ⟨G, F, as, R, ex, q2, ⟨q3.1, Nat.le_trans (Nat.add_le_add_left hu _) q3.2⟩, q4, q5, q6, q7, fun r hr ha v F' H' g => q8 r hr ha v F' H' (g.mono hu), fun e he b cls d F' H' hb g => q9 e he b cls d F' H' (Nat.le_trans hb hu) g⟩
end
section
variable {X : Cx} {W : WC} {e e0 : Expr} {es : List Expr} {pos p kp : Pos} {mas : MA} {me : ME} {x pk : Str} {dd : PyData} {k j u1 u2 u3 : Nat} {mf : MF}
theorem argsD_app : ∀ {xs as : List DV} {y b : DV}, argsD xs = some as → argsD [y] = some [b] → argsD (xs ++ [y]) = some (as ++ [b])
  | [], as, y, b, h1, h2 => by cases h1; exact h2
  | x :: xs, as, y, b, h1, h2 => by
    unfold argsD at h1
    split at h1
    · rename_i a as' e1 e2
      cases h1
      have e3 := argsD_app e2 h2
      rw [List.cons_append]
      unfold argsD
      rw [e3]
      cases x <;> first | (cases e1; rfl) | cases e1
    · cases h1
/-- f(e, ..): the default stands first -/
def mDefS (mf : MF) (dd : PyData) (t : MA) : ME := fun ex δ R => t ex δ fun xs => match argsD xs with
  | some as => mf (.d dd :: as) R (fun e => ex e δ)
  | none => False
/-- f(e, .., k = y) -/
def mKwS (mf : MF) (t : MA) (me : ME) : ME := fun ex δ R => t ex δ fun xs => me ex δ fun y => match argsD xs, argsD [y] with
  | some as, some [b] => mf (b :: as) R (fun e => ex e δ)
  | _, _ => False
theorem spS_def {dv : V} (hdv : ∀ F, At X.K F dv dd) (σ : L2.St) (H : Hp) (Q : VK) (q : liftE X.K X.mg W (u1 + u2) (mDefS mf dd mas) σ H Q) :
    liftA X.K X.mg W u1 mas σ H fun vs H1 => spS X.K X.mg W.ck u2 mf (dv :: vs) H1 Q (WE W.w σ) := by
  obtain ⟨ex, G, F, δ, τ, ts, τ1, ts1, R, nw, m, kk⟩ := q
  refine ⟨ex, G, F, δ, τ, ts, τ1, ts1, _, nw.fst, m, fun xs hxs vs F1 H1 hl g1 => ?_⟩
  split at hxs
  · rename_i as ea
    obtain ⟨h1, h2⟩ := argsD_arg ea
    obtain ⟨F2, s2, g2⟩ := fix_args xs g1 ea
    have hla : as.length = vs.length := h1.trans hl
    have gb := g2.cut (by simpa using hla)
    refine ⟨(G.up u1).into F2 H1, F2, .d dd :: as, R, fun e => ex e δ, nw.k, ⟨nw.ck.1, by have := nw.ck.2; show G.n + u1 + u2 ≤ G.lim; omega⟩, by simp [hla], fun z hz => ?_, gb.into (fun z hz => ?_) (by simp [hla]) fun i x e => ?_, hxs, fun r hr ha v F' H' g' => kk r hr v F' H' (by rw [← up_up]; exact gb.ret (δ₁ := []) (σ₁ := []) ha g'), fun e he b cls d F' H' hb g' hx => ?_⟩
    · rcases List.mem_cons.mp hz with rfl | hz
      · rfl
      · exact h2 z hz
    · rcases List.mem_cons.mp hz with rfl | hz
      · rfl
      · exact h2 z hz
    · cases i with
      | zero =>
        cases e
        refine ⟨dv, rfl, ?_⟩
        show At G.K F2 dv dd
        rw [nw.k]
        exact hdv F2
      | succ i => exact Good.nth hla g2 (by simpa using e)
    · exact nw.link (u1 + b) F' δ σ H' τ1 ts1 e cls d (by omega) nw.l1 (by rw [← up_up]; exact gb.back g') hx he
  · exact hxs.elim
theorem spS_kw (σ : L2.St) (H : Hp) (Q : VK) (q : liftE X.K X.mg W (u1 + (u3 + u2)) (mKwS mf mas me) σ H Q) :
    liftA X.K X.mg W u1 mas σ H fun vs H1 => liftE X.K X.mg W u3 me σ H1 fun gv H2 => spS X.K X.mg W.ck u2 mf (gv :: vs) H2 Q (WE W.w σ) := by
  obtain ⟨ex, G, F, δ, τ, ts, τ1, ts1, R, nw, m, kk⟩ := q
  refine ⟨ex, G, F, δ, τ, ts, τ1, ts1, _, nw.fst, m, fun xs hxs vs F1 H1 hl g1 => ?_⟩
  refine ⟨ex, G.up u1, F1, δ, τ, ts, _, _, _, (nw.after g1).fst, hxs, fun y hy gv F2 H2 g2 => ?_⟩
  split at hy
  · rename_i as b ea eb
    have g3 : Good (G.up (u1 + u3)) F2 (δ ++ τ ++ τ1 ++ (xs ++ [y]).map some) (σ ++ ts ++ ts1 ++ (vs ++ [gv]).map some) H2 := by
      rw [up_up] at g2
      simpa only [List.append_assoc, List.map_append, List.map_cons, List.map_nil] using g2
    have ec := argsD_app ea eb
    obtain ⟨h1, h2⟩ := argsD_arg ec
    obtain ⟨F3, s3, g4⟩ := fix_args (xs ++ [y]) g3 ec
    have hla : (as ++ [b]).length = (vs ++ [gv]).length := by rw [h1]; simp [hl]
    have hla' : as.length = vs.length := by simpa using hla
    have gb := g4.cut (by simpa using hla)
    have hat : ∀ (i : Nat) (z : DV), (b :: as)[i]? = some z → ∃ v, (gv :: vs)[i]? = some v ∧ VOk (G.up (u1 + u3)) F3 H2 v z := fun i z e => by
      cases i with
      | zero =>
        cases e
        obtain ⟨v, e1, e2⟩ := Good.nth hla g4 (i := as.length) (r := b) (by simp)
        rw [hla'] at e1
        simp at e1
        subst e1
        exact ⟨_, rfl, e2⟩
      | succ i =>
        have e' : as[i]? = some z := by simpa using e
        have hi : i < as.length := (List.getElem?_eq_some_iff.mp e').1
        obtain ⟨v, e1, e2⟩ := Good.nth hla g4 (i := i) (r := z) (by rw [List.getElem?_append_left hi]; exact e')
        rw [List.getElem?_append_left (by omega)] at e1
        exact ⟨v, by simpa using e1, e2⟩
    have harg : ∀ z ∈ b :: as, z.arg = true := fun z hz => h2 z (by
      rcases List.mem_cons.mp hz with rfl | hz
      · simp
      · simp [hz])
    refine ⟨(G.up (u1 + u3)).into F3 H2, F3, b :: as, R, fun e => ex e δ, nw.k, ⟨nw.ck.1, by have := nw.ck.2; show G.n + (u1 + u3) + u2 ≤ G.lim; omega⟩, by simp [hla'], harg, gb.into harg (by simp [hla']) hat, hy, fun r hr ha v F' H' g' => kk r hr v F' H' (by
      have := gb.ret (δ₁ := []) (σ₁ := []) ha g'
      rw [up_up] at this
      exact Good.mono this (by omega)), fun e he b cls d F' H' hb g' hx => ?_⟩
    exact nw.link (u1 + u3 + b) F' δ σ H' τ1 ts1 e cls d (by omega) nw.l1 (by rw [← up_up]; exact gb.back g') hx he
  · exact hy.elim
theorem liftE_mono {Q Q' : VK} {σ : L2.St} {H : Hp} (h : liftE X.K X.mg W u3 me σ H Q) (i : ∀ v H', Q v H' → Q' v H') : liftE X.K X.mg W u3 me σ H Q' := by
  obtain ⟨ex, G, F, δ, τ, ts, τ1, ts1, R, nw, m, k⟩ := h
  exact ⟨ex, G, F, δ, τ, ts, τ1, ts1, R, nw, m, fun r hr v F' H' g => i _ _ (k r hr v F' H' g)⟩
theorem seq_of {G : Gm} {F H : Hp} {v : V} {x : DV} {xs : List PyData} (h : VOk G F H v x) (hf : Same F H) (e : x.seq = some xs) : ∃ l vs, v = .ref l ∧ (SqT G.K H l vs ∨ SqL G.K H l vs) ∧ AtL G.K F vs xs := by
  cases x with
  | d y =>
    cases y with
    | list ys =>
      cases e
      obtain ⟨l, vs, rfl, h1, h2⟩ := lst_of (x := .d (.list xs)) h hf rfl
      exact ⟨l, vs, rfl, .inr (SqL.of h1), h2⟩
    | tuple ys =>
      cases e
      obtain ⟨l, vs, rfl, h1, h2⟩ := tup_of h hf
      exact ⟨l, vs, rfl, .inl h1, h2⟩
    | _ => cases e
  | own ys =>
    cases e
    obtain ⟨l, vs, rfl, h1, h2⟩ := lst_of (x := .own xs) h hf rfl
    exact ⟨l, vs, rfl, .inr (SqL.of h1), h2⟩
  | bor ys =>
    cases e
    obtain ⟨l, vs, rfl, h1, h2⟩ := lst_of (x := .bor xs) h hf rfl
    exact ⟨l, vs, rfl, .inr (SqL.of h1), h2⟩
  | _ => cases e
theorem callSK_run {f : Addr} {dv gv : V} {sp : Sp} {pins : List (Addr × Obj)} {σ : L2.St} {H : Hp} {s : Shared} {Q : VK} {us : List Value} {vs : List V} {kw : List (Str × Value)} {wx : WX} (F : FnSK X.prog X.w X.K X.mg X.base k f pk dv sp) (hg : X.A.guards = some []) (hr : Room k X.A) (tk : Takes X wx)
    (I : Inv X pins σ H s) (r : Vals vs us) (hk : (kw = [] ∧ gv = dv) ∨ ∃ u, kw = [(pk, u)] ∧ RelV gv u) (h : sp (gv :: vs) H Q (WE wx σ)) : wpAny (model X.prog X.w) X.A (call (.ref f) us kw) (EP X pins σ Q) X.xe s := by
  refine wpAny_call (codeAny_mono (F.run X.A X.stack s H us vs kw gv Q (WE wx σ) hg hr I.env0 r hk h) fun res s' hq => ?_)
  match res, hq with
  | .error e, hq => exact passAt tk σ pins H s e s' I hq
  | .ok (.ret u), hq => exact I.after hq
/-- f(e, ..) without the keyword -/
theorem de_callSK0 (c : Ctx X W j) (F : DFnSK X.prog X.w X.K X.mg X.base W.ck x pk dd k u2 mf) (hk : k ≤ j) (hg : Gl X x) (ha : DA X W (e :: es) mas u1) (hdb : (x == ("__debug__" : Str)) = false := by decide)
    (he : starEach (e :: es) X.env = (false, eval e X.env) :: starEach es X.env := by rfl) (hpl : (backTo pos (starEach es X.env)).any (·.1) = false := by rfl) : DE X W (.Call (.Name x p) (e :: es) [] pos) (mDefS mf dd mas) (u1 + u2) := by
  obtain ⟨f, dv, hm, hkp, hdv, hF⟩ := F
  refine ⟨⟨fun pins s σ H Q I h => ?_⟩⟩
  have h' := spS_def hdv σ H Q h
  refine wpAny_Call_Name_kw (ld_glob I hg hm ?_ hdb)
  exact PySem.W.callWith_K (h₀ := X.base) I.ok.mod.kin hkp (thn (ha.pa.run pos pins s σ H _ I h') fun us s1 ⟨vs, H1, I1, r, q⟩ => ⟨I1.kIn, callSK_run hF c.gd (c.hr.mono hk) c.tk I1 r (.inl ⟨rfl, rfl⟩) q⟩) he hpl
/-- f(e, .., k = y) -/
theorem de_callSK1 (c : Ctx X W j) (F : DFnSK X.prog X.w X.K X.mg X.base W.ck x pk dd k u2 mf) (hk : k ≤ j) (hg : Gl X x) (ha : DA X W (e :: es) mas u1) (hy : DE X W e0 me u3) (hdb : (x == ("__debug__" : Str)) = false := by decide)
    (hall : (backToKw pos (keywordEach [⟨some pk, e0, kp⟩] X.env)).all (·.1.isSome) = true := by rfl) (hks : (backToKw pos (keywordEach [⟨some pk, e0, kp⟩] X.env)).filterMap (·.1) = [pk] := by rfl)
    (he : starEach (e :: es) X.env = (false, eval e X.env) :: starEach es X.env := by rfl) (hpl : ((backTo pos (starEach (e :: es) X.env)).any (·.1) || (backToKw pos (keywordEach [⟨some pk, e0, kp⟩] X.env)).any (·.1.isNone)) = false := by rfl) :
    DE X W (.Call (.Name x p) (e :: es) [⟨some pk, e0, kp⟩] pos) (mKwS mf mas me) (u1 + (u3 + u2)) := by
  obtain ⟨f, dv, hm, hkp, hdv, hF⟩ := F
  refine ⟨⟨fun pins s σ H Q I h => ?_⟩⟩
  have h' := spS_kw σ H Q h
  refine wpAny_Call_Name_kw (ld_glob I hg hm ?_ hdb)
  refine PySem.W.callWith_KW (h₀ := X.base) I.ok.mod.kin hkp hall (thn (ha.pa.run pos pins s σ H _ I h') fun us s1 ⟨vs, H1, I1, r, q⟩ => ?_) hpl he
  refine thn ((pk_cons (kpos := kp) (nm := some pk) hy.pe pk_nil).run pos pins s1 σ H1 (fun zs H2 => ∃ z, zs = [z] ∧ spS X.K X.mg W.ck u2 mf (z :: vs) H2 Q (WE W.w σ)) I1 ?_) fun ws s2 ⟨zs, H2, I2, rz, z, ez, q2⟩ => ⟨I2.kIn, ?_⟩
  · show liftE X.K X.mg W u3 me σ H1 fun y H2 => ∃ z, [y] = [z] ∧ _
    exact liftE_mono q fun y H2 hq => ⟨y, rfl, hq⟩
  · rw [hks]
    subst ez
    cases rz with
    | cons rz1 rz2 =>
      cases rz2
      exact callSK_run hF c.gd (c.hr.mono hk) c.tk I2 r (.inr ⟨_, rfl, rz1⟩) q2
/-- f(k = y) -/
theorem de_callSK2 (c : Ctx X W j) (F : DFnSK X.prog X.w X.K X.mg X.base W.ck x pk dd k u2 mf) (hk : k ≤ j) (hg : Gl X x) (hy : DE X W e0 me u3) (hdb : (x == ("__debug__" : Str)) = false := by decide)
    (hall : (backToKw pos (keywordEach [⟨some pk, e0, kp⟩] X.env)).all (·.1.isSome) = true := by rfl) (hks : (backToKw pos (keywordEach [⟨some pk, e0, kp⟩] X.env)).filterMap (·.1) = [pk] := by rfl)
    (hpl : ((backTo pos (starEach [] X.env)).any (·.1) || (backToKw pos (keywordEach [⟨some pk, e0, kp⟩] X.env)).any (·.1.isNone)) = false := by rfl) :
    DE X W (.Call (.Name x p) [] [⟨some pk, e0, kp⟩] pos) (mKwS mf mNil me) (0 + (u3 + u2)) := by
  obtain ⟨f, dv, hm, hkp, hdv, hF⟩ := F
  refine ⟨⟨fun pins s σ H Q I h => ?_⟩⟩
  have h' := spS_kw (u1 := 0) σ H Q h
  have h2 := (da_nil (X := X) (W := W)).pa.run pos pins s σ H _ I h'
  refine wpAny_Call_Name_kw (ld_glob I hg hm ?_ hdb)
  refine PySem.W.callWith_KW0 (h₀ := X.base) I.ok.mod.kin hkp hall ?_ hpl
  have h3 : liftE X.K X.mg W u3 me σ H fun gv H2 => spS X.K X.mg W.ck u2 mf [gv] H2 Q (WE W.w σ) := by
    obtain ⟨ex, G, F, δ, τ, ts, τ1, ts1, R, nw, m, k⟩ := h'
    have := k [] m [] F H rfl (by simpa using nw.good.later 0)
    exact this
  refine thn ((pk_cons (kpos := kp) (nm := some pk) hy.pe pk_nil).run pos pins s σ H (fun zs H2 => ∃ z, zs = [z] ∧ spS X.K X.mg W.ck u2 mf [z] H2 Q (WE W.w σ)) I ?_) fun ws s2 ⟨zs, H2, I2, rz, z, ez, q2⟩ => ⟨I2.kIn, ?_⟩
  · show liftE X.K X.mg W u3 me σ H fun y H2 => ∃ z, [y] = [z] ∧ _
    exact liftE_mono h3 fun y H2 hq => ⟨y, rfl, hq⟩
  · rw [hks]
    subst ez
    cases rz with
    | cons rz1 rz2 =>
      cases rz2
      exact callSK_run hF c.gd (c.hr.mono hk) c.tk I2 .nil (.inr ⟨_, rfl, rz1⟩) q2
/-- *e in a display -/
def mStar (me : ME) (t : MA) : MA := fun ex δ R => me ex δ fun x => match x.seq with
  | some ds => t ex δ fun xs => R (ds.map DV.d ++ xs)
  | none => False
theorem da_star (ha : DE X W e me u1) (hr : DA X W es mas u2) (hs : starEach (.Starred e p :: es) X.env = (true, eval e X.env) :: starEach es X.env := by rfl) : DA X W (.Starred e p :: es) (mStar me mas) (u1 + u2) :=
  ⟨PA.imp (pa_star ha.pe hr.pa hs) fun σ H Q q => by
    obtain ⟨ex, G, F, δ, τ, ts, τ1, ts1, R, n, m, k⟩ := q
    refine ⟨ex, G, F, δ, τ, ts, τ1, ts1, _, n.fst, m, fun x hx v F1 H1 g1 => ?_⟩
    split at hx
    · rename_i ds eds
      obtain ⟨l, vs, rfl, h1, h2⟩ := seq_of g1.top g1.fh eds
      have g2 := Good.pushL h2 g1.pop
      have hK : (G.up u1).K = X.K := n.k
      rw [hK] at h1
      refine ⟨l, vs, rfl, h1, ex, G.up u1, F1, δ, τ, ts, _, _, _, n.after g2, hx, fun xs hxs ws F2 H2 hl g3 => ?_⟩
      refine k _ hxs (vs ++ ws) F2 H2 (by rw [List.length_append, List.length_append, List.length_map, h2.length, hl]) ?_
      rw [up_up] at g3
      simpa only [List.append_assoc, List.map_append, List.map_map, Function.comp_def] using g3
    · exact hx.elim⟩
end
end DL

namespace DL
open PySem PySem.Spec L2 PySem.W
/-! ## try: .. except X: .. (no name) -/
def mTryO (L : List Str) (sub : Str → Str → Bool) (x : Str) (mb ms : MS) : MS := fun ex E δ => mb (fun e δ' => e.cls ∈ L ∧
  (sub e.cls x = true → ms ex0 E (cleanD δ')) ∧ (sub e.cls x = false → ex e δ')) E δ
section
variable {X : Cx} {W : WC} {u1 u2 k : Nat} {pos : Pos} {K' : Frag} {mg' : Str → Option Value} {L : List Str} {sub : Str → Str → Bool}
theorem ds_tryO {x : Str} {b0 : Stmt} {body suite : List Stmt} {mb ms : MS} {np pos' : Pos} (c : Ctx X W k) (T : XEx K' mg' L sub x) (hg : Gl X x)
    (hb : ∀ (w : WX) (pn : List (Addr × Obj)) (xe : Value → Shared → Prop), Ctx (X.tr pn xe) ⟨w, W.ck⟩ k → DSs (X.tr pn xe) ⟨w, W.ck⟩ body mb u1)
    (hsu : ∀ (a : Addr) (oe : Obj) (C : Addr) (d : Option Addr) (pn : List (Addr × Obj)), (∃ cn, cn ∈ L ∧ C = clsA mg' cn) → Zc (.ref C) d oe → (∃ vs, oe.data = .fields vs) → CtxU (X.suite a ((a, oe) :: pn)) → DSs (X.suite a ((a, oe) :: pn)) (W0 W) (b0 :: suite) ms u2)
    (hs : X.stack = X.env :: X.outer := by rfl) (hfr : X.env.frame = some X.env.locals := by rfl) (hK : X.K = K' := by rfl) (hmg : X.mg = mg' := by rfl) (hxd : (x == ("__debug__" : Str)) = false := by decide) :
    DS X W (.Try body [.ExceptHandler (some (.Name x np)) none (b0 :: suite) pos'] [] [] pos) (mTryO L sub x mb ms) (u1 + u2) := by
  subst hK
  subst hmg
  refine ⟨PS.imp (ps_try_only (c := .ref (clsA X.mg x)) (Wout := W.w) (tb := fun W' => liftS X.K X.mg ⟨W', W.ck⟩ u1 mb)
    (ts := fun a cls d D σ H => ∃ C, cls = .ref C ∧ (∃ cn, cn ∈ L ∧ C = clsA X.mg cn) ∧ liftS X.K X.mg (W0 W) u2 ms D σ H) hs hfr ⟨hg, hxd, .inl T.m⟩ c.tk (fun w pn xe tk _ => (hb w pn xe ⟨c.gd, c.hr, tk⟩).pss) ?_) ?_⟩
  · intro a oe cls d pn hz hf
    refine ⟨fun pins s σ H D I q => ?_⟩
    obtain ⟨C, rfl, hC, q⟩ := q
    exact (hsu a oe C d pn hC hz hf ⟨c.gd, c.u.un⟩).pss.run pins s σ H D I q
  · rintro D σ H ⟨ex, G, F, δ, τ, ts, E, n0, nb, eo, m⟩
    refine ⟨_, G, F, δ, τ, ts, E, ⟨n0.k, n0.l1, n0.l2, n0.good, ?_, n0.ck.1, by have := n0.ck.2; omega⟩, nb, eo.le (Nat.le_add_right _ _), m⟩
    rintro b F1 δ1 σ1 H1 τ1 ts1 e cls d hb1 hl1 g1 hx ⟨hL, h1, h2⟩
    have hx0 := hx
    obtain ⟨C, hm, rfl, hx⟩ := hx
    have hC : C = clsA X.mg e.cls := (clsA_of hm).symm
    refine ⟨sub e.cls x, by rw [hC]; exact T.e.get hL, fun ht a na => ?_, fun hf => n0.link b F1 δ1 σ1 H1 τ1 ts1 e (.ref C) d (Nat.le_trans hb1 (Nat.le_add_right _ _)) hl1 g1 hx0 (h2 hf)⟩
    refine ⟨C, rfl, ⟨_, hL, hC⟩, ?_⟩
    have hlen1 : (δ1 ++ τ).length = (σ1 ++ ts).length := by simp [hl1, n0.l2]
    have gl := g1.len
    have hlen2 : τ1.length = ts1.length := by
      simp only [List.length_append] at gl hlen1
      omega
    have g2 := Good.cut hlen2 g1
    have g3 : Good (G.up b) F1 (cleanD δ1 ++ τ) (σ1 ++ ts) H1 := g2.forget (by simp [cleanD_len]) fun j y e => by
      rcases Nat.lt_or_ge j (cleanD δ1).length with q | q
      · rw [List.getElem?_append_left q] at e
        rw [List.getElem?_append_left (by rw [cleanD_len] at q; exact q)]
        exact (clean_get e).1
      · rw [List.getElem?_append_right q] at e
        rw [List.getElem?_append_right (by rw [cleanD_len] at q; exact q), ← cleanD_len]
        exact e
    have nbc : NoBor (cleanD δ1 ++ τ) := nb_mk (fun j y e => (clean_get e).2) (nb_right nb)
    exact ⟨ex0, G.up b, F1, _, τ, ts, E, ⟨n0.k, by simp [cleanD_len, hl1], n0.l2, by simpa using g3, pass_blk, n0.ck.1, by have := n0.ck.2; show G.n + b + u2 ≤ G.lim; omega⟩, nbc, EndsOk.up (u1 := u2) eo (by omega), h1 ht⟩
end
end DL

namespace DL
open PySem PySem.Spec L2
/-! ## stretches of rows that are moved, multiplied, seen from the other end, set behind one another -/
theorem end_of {l : SRow} (I : Inc l) {s m : Nat} (h : IsEnd l s m) : endOf l s = m := (endOf_ok I (by have := h.le; have := h.lt; omega)).uniq h
theorem IsStart.uniq {l : SRow} {s m k : Nat} (h1 : IsStart l s m) (h2 : IsStart l s k) : m = k := by
  rcases Nat.lt_trichotomy m k with h | h | h
  · obtain ⟨j, a, b, c⟩ := h1.ch (k - 1) (by omega) (by have := h2.le; omega)
    have := h2.st (by omega) j (by omega) b
    omega
  · exact h
  · obtain ⟨j, a, b, c⟩ := h2.ch (m - 1) (by omega) (by have := h1.le; omega)
    have := h1.st (by omega) j (by omega) b
    omega
theorem start_of {l : SRow} (I : Inc l) {s m : Nat} (h : IsStart l s m) : startOf l s = m := (startOf_ok I h.lt).uniq h
theorem end_ge {l : SRow} (I : Inc l) {s m : Nat} (hs : s < l.length) (hm : m < l.length) (ch : ∀ j, s < j → j ≤ m → ∃ k, s ≤ k ∧ k < j ∧ pl l j ≤ pl l k + ht l k) : m ≤ endOf l s := by
  have h := endOf_ok I hs
  rcases Nat.lt_or_ge (endOf l s) m with q | q
  · obtain ⟨k, a, b, c⟩ := ch (endOf l s + 1) (by have := h.le; omega) (by omega)
    have := h.st (by omega) k a (by omega)
    omega
  · exact q
theorem start_le {l : SRow} (I : Inc l) {s m : Nat} (hs : s < l.length) (ch : ∀ j, m ≤ j → j < s → ∃ k, j < k ∧ k ≤ s ∧ pl l k - ht l k ≤ pl l j) : startOf l s ≤ m := by
  have h := startOf_ok I hs
  rcases Nat.lt_or_ge m (startOf l s) with q | q
  · obtain ⟨k, a, b, c⟩ := ch (startOf l s - 1) (by omega) (by have := h.le; omega)
    have := h.st (by omega) k (by omega) b
    omega
  · exact q
/-- moved and multiplied -/
def affL (a b : Int) (l : SRow) : SRow := l.map fun p => (p.1 * a + b, p.2 * a)
theorem aff_len {a b : Int} {l : SRow} : (affL a b l).length = l.length := by unfold affL; simp
theorem aff_at {a b : Int} {l : SRow} {i : Nat} (h : i < l.length) : pl (affL a b l) i = pl l i * a + b ∧ ht (affL a b l) i = ht l i * a := by
  unfold pl ht affL
  simp only [List.getD_eq_getElem?_getD, List.getElem?_map, List.getElem?_eq_getElem h]
  exact ⟨rfl, rfl⟩
theorem aff_inc {a b : Int} (ha : 1 ≤ a) {l : SRow} (I : Inc l) : Inc (affL a b l) := by
  refine ⟨by rw [aff_len]; exact I.n0, by rw [aff_len]; exact I.n1, fun i j hij hj => ?_, fun i hi => ?_⟩
  · rw [aff_len] at hj
    rw [(aff_at (show i < l.length by omega)).1, (aff_at hj).1]
    have := Int.mul_lt_mul_of_pos_right (I.inc i j hij hj) (show (0 : Int) < a by omega)
    omega
  · rw [aff_len] at hi
    rw [(aff_at hi).2]
    exact Int.mul_nonneg (I.hp i hi) (by omega)
theorem aff_end {a b : Int} (ha : 1 ≤ a) {l : SRow} (I : Inc l) {s : Nat} (hs : s < l.length) : endOf (affL a b l) s = endOf l s := by
  have h := endOf_ok I hs
  have hlt := h.lt
  have a0 : (0 : Int) < a := by omega
  refine end_of (aff_inc ha I) ⟨h.le, by rw [aff_len]; exact h.lt, fun j h1 h2 => ?_, fun hn k h1 h2 => ?_⟩
  · obtain ⟨k, k1, k2, k3⟩ := h.ch j h1 h2
    refine ⟨k, k1, k2, ?_⟩
    rw [(aff_at (show j < l.length by omega)).1, (aff_at (show k < l.length by omega)).1, (aff_at (show k < l.length by omega)).2]
    have := Int.mul_le_mul_of_nonneg_right k3 (show (0 : Int) ≤ a by omega)
    rw [Int.add_mul] at this
    omega
  · rw [aff_len] at hn
    have := h.st hn k h1 h2
    rw [(aff_at hn).1, (aff_at (show k < l.length by omega)).1, (aff_at (show k < l.length by omega)).2]
    have := Int.mul_lt_mul_of_pos_right this a0
    rw [Int.add_mul] at this
    omega
theorem aff_start {a b : Int} (ha : 1 ≤ a) {l : SRow} (I : Inc l) {s : Nat} (hs : s < l.length) : startOf (affL a b l) s = startOf l s := by
  have h := startOf_ok I hs
  have a0 : (0 : Int) < a := by omega
  refine start_of (aff_inc ha I) ⟨h.le, by rw [aff_len]; exact h.lt, fun j h1 h2 => ?_, fun hn k h1 h2 => ?_⟩
  · obtain ⟨k, k1, k2, k3⟩ := h.ch j h1 h2
    refine ⟨k, k1, k2, ?_⟩
    rw [(aff_at (show j < l.length by omega)).1, (aff_at (show k < l.length by omega)).1, (aff_at (show k < l.length by omega)).2]
    have := Int.mul_le_mul_of_nonneg_right k3 (show (0 : Int) ≤ a by omega)
    rw [Int.sub_mul] at this
    omega
  · have := h.st hn k h1 h2
    rw [(aff_at (show startOf l s - 1 < l.length by have := h.le; omega)).1, (aff_at (show k < l.length by omega)).1, (aff_at (show k < l.length by omega)).2]
    have := Int.mul_lt_mul_of_pos_right this a0
    rw [Int.sub_mul] at this
    omega
/-- seen from the other end -/
theorem mirror2 {l : SRow} (hn : 0 < l.length) : mirror (mirror l) = l := by
  apply List.ext_getElem?
  intro i
  rcases Nat.lt_or_ge i l.length with q | q
  · rw [mirror_get (by rw [mirror_len]; exact q)]
    rw [mirror_len, mirror_pl hn, mirror_pl (by omega), mirror_pl (by omega), mirror_ht (by omega)]
    have e1 : l.length - 1 - (l.length - 1 - i) = i := by omega
    have e2 : l.length - 1 - (l.length - 1) = 0 := by omega
    have e3 : l.length - 1 - 0 = l.length - 1 := by omega
    rw [e1, e2, e3, List.getElem?_eq_getElem q]
    unfold pl ht
    simp only [List.getD_eq_getElem?_getD, List.getElem?_eq_getElem q, Option.getD_some]
    congr 1
    refine Prod.ext ?_ rfl
    simp only
    omega
  · rw [List.getElem?_eq_none (by rw [mirror_len, mirror_len]; exact q), List.getElem?_eq_none q]
theorem mirror_end {l : SRow} (I : Inc l) {s : Nat} (hs : s < l.length) : endOf (mirror l) s = l.length - 1 - startOf l (l.length - 1 - s) := by
  have h := (endOf_ok I.mirror (s := s) (by rw [mirror_len]; exact hs)).lt
  rw [mirror_len] at h
  unfold startOf
  have e : l.length - 1 - (l.length - 1 - s) = s := by omega
  rw [e]
  omega
theorem mirror_start {l : SRow} (I : Inc l) {s : Nat} (hs : s < l.length) : startOf (mirror l) s = l.length - 1 - endOf l (l.length - 1 - s) := by
  unfold startOf
  rw [mirror2 I.n0, mirror_len]
/-- one row behind another -/
def behL (b : Int) (l m : SRow) : SRow := l ++ m.map fun p => (p.1 + b, p.2)
structure Beh (b : Int) (l m : SRow) : Prop where
  il : Inc l
  im : Inc m
  n : l.length + m.length ≤ 1000
  lt : pl l (l.length - 1) < pl m 0 + b
section
variable {b : Int} {l m : SRow}
theorem beh_len : (behL b l m).length = l.length + m.length := by unfold behL; simp
theorem beh_l {i : Nat} (h : i < l.length) : pl (behL b l m) i = pl l i ∧ ht (behL b l m) i = ht l i := by
  unfold pl ht behL
  simp only [List.getD_eq_getElem?_getD, List.getElem?_append_left h]
  exact ⟨trivial, trivial⟩
theorem beh_r {i : Nat} (h : i < m.length) : pl (behL b l m) (l.length + i) = pl m i + b ∧ ht (behL b l m) (l.length + i) = ht m i := by
  unfold pl ht behL
  simp only [List.getD_eq_getElem?_getD, List.getElem?_append_right (Nat.le_add_right _ _), Nat.add_sub_cancel_left, List.getElem?_map, List.getElem?_eq_getElem h]
  exact ⟨rfl, rfl⟩
theorem Inc.le_end {l : SRow} (I : Inc l) {i : Nat} (h : i < l.length) : pl l i ≤ pl l (l.length - 1) := by
  rcases Nat.lt_or_ge i (l.length - 1) with q | q
  · have := I.inc i (l.length - 1) q (by omega); omega
  · have : i = l.length - 1 := by omega
    rw [this]; omega
theorem Inc.ge0 {l : SRow} (I : Inc l) {i : Nat} (h : i < l.length) : pl l 0 ≤ pl l i := by
  rcases Nat.eq_zero_or_pos i with rfl | q
  · omega
  · have := I.inc 0 i q h; omega
theorem Beh.inc (B : Beh b l m) : Inc (behL b l m) := by
  have hl := B.il.n0
  have hm := B.im.n0
  refine ⟨by rw [beh_len]; omega, by rw [beh_len]; exact B.n, fun i j hij hj => ?_, fun i hi => ?_⟩
  · rw [beh_len] at hj
    rcases Nat.lt_or_ge j l.length with q | q
    · rw [(beh_l (show i < l.length by omega)).1, (beh_l q).1]
      exact B.il.inc i j hij q
    · obtain ⟨j', rfl⟩ : ∃ j', j = l.length + j' := ⟨j - l.length, by omega⟩
      rw [(beh_r (show j' < m.length by omega)).1]
      have h0 := B.im.ge0 (show j' < m.length by omega)
      rcases Nat.lt_or_ge i l.length with q2 | q2
      · rw [(beh_l q2).1]
        have := B.il.le_end q2
        have := B.lt
        omega
      · obtain ⟨i', rfl⟩ : ∃ i', i = l.length + i' := ⟨i - l.length, by omega⟩
        rw [(beh_r (show i' < m.length by omega)).1]
        have := B.im.inc i' j' (by omega) (by omega)
        omega
  · rw [beh_len] at hi
    rcases Nat.lt_or_ge i l.length with q | q
    · rw [(beh_l q).2]; exact B.il.hp i q
    · obtain ⟨i', rfl⟩ : ∃ i', i = l.length + i' := ⟨i - l.length, by omega⟩
      rw [(beh_r (show i' < m.length by omega)).2]
      exact B.im.hp i' (by omega)
theorem Beh.end_r (B : Beh b l m) {s : Nat} (hs : s < m.length) : endOf (behL b l m) (l.length + s) = l.length + endOf m s := by
  have h := endOf_ok B.im hs
  have hlt := h.lt
  refine end_of B.inc ⟨by have := h.le; omega, by rw [beh_len]; omega, fun j h1 h2 => ?_, fun hn k h1 h2 => ?_⟩
  · obtain ⟨j', rfl⟩ : ∃ j', j = l.length + j' := ⟨j - l.length, by omega⟩
    obtain ⟨k, k1, k2, k3⟩ := h.ch j' (by omega) (by omega)
    refine ⟨l.length + k, by omega, by omega, ?_⟩
    rw [(beh_r (show j' < m.length by omega)).1, (beh_r (show k < m.length by omega)).1, (beh_r (show k < m.length by omega)).2]
    omega
  · rw [beh_len] at hn
    obtain ⟨k', rfl⟩ : ∃ k', k = l.length + k' := ⟨k - l.length, by omega⟩
    have := h.st (by omega) k' (by omega) (by omega)
    rw [show l.length + endOf m s + 1 = l.length + (endOf m s + 1) by omega, (beh_r (show endOf m s + 1 < m.length by omega)).1, (beh_r (show k' < m.length by omega)).1, (beh_r (show k' < m.length by omega)).2]
    omega
theorem Beh.end_l (B : Beh b l m) {s : Nat} (hs : s < l.length) : endOf l s ≤ endOf (behL b l m) s := by
  have h := endOf_ok B.il hs
  have hlt := h.lt
  refine end_ge B.inc (by rw [beh_len]; omega) (by rw [beh_len]; omega) fun j h1 h2 => ?_
  obtain ⟨k, k1, k2, k3⟩ := h.ch j h1 h2
  refine ⟨k, k1, k2, ?_⟩
  rw [(beh_l (show j < l.length by omega)).1, (beh_l (show k < l.length by omega)).1, (beh_l (show k < l.length by omega)).2]
  exact k3
theorem Beh.end_far (B : Beh b l m) (far : ∀ i, i < l.length → pl l (l.length - 1) + ht l i < pl m 0 + b) {s : Nat} (hs : s < l.length) : endOf (behL b l m) s = endOf l s := by
  have h := endOf_ok B.il hs
  have hlt := h.lt
  have hm := B.im.n0
  refine end_of B.inc ⟨h.le, by rw [beh_len]; omega, fun j h1 h2 => ?_, fun hn k h1 h2 => ?_⟩
  · obtain ⟨k, k1, k2, k3⟩ := h.ch j h1 h2
    refine ⟨k, k1, k2, ?_⟩
    rw [(beh_l (show j < l.length by omega)).1, (beh_l (show k < l.length by omega)).1, (beh_l (show k < l.length by omega)).2]
    exact k3
  · rw [(beh_l (show k < l.length by omega)).1, (beh_l (show k < l.length by omega)).2]
    rcases Nat.lt_or_ge (endOf l s + 1) l.length with q | q
    · rw [(beh_l q).1]
      exact h.st q k h1 h2
    · have e : endOf l s + 1 = l.length + 0 := by omega
      rw [e, (beh_r hm).1]
      have h1 := far k (by omega)
      have h2 := B.il.le_end (show k < l.length by omega)
      omega
theorem Beh.start_l (B : Beh b l m) {s : Nat} (hs : s < l.length) : startOf (behL b l m) s = startOf l s := by
  have h := startOf_ok B.il hs
  have hle := h.le
  refine start_of B.inc ⟨h.le, by rw [beh_len]; omega, fun j h1 h2 => ?_, fun hn k h1 h2 => ?_⟩
  · obtain ⟨k, k1, k2, k3⟩ := h.ch j h1 h2
    refine ⟨k, k1, k2, ?_⟩
    rw [(beh_l (show j < l.length by omega)).1, (beh_l (show k < l.length by omega)).1, (beh_l (show k < l.length by omega)).2]
    exact k3
  · rw [(beh_l (show startOf l s - 1 < l.length by omega)).1, (beh_l (show k < l.length by omega)).1, (beh_l (show k < l.length by omega)).2]
    exact h.st hn k h1 h2
theorem Beh.start_r (B : Beh b l m) {s : Nat} (hs : s < m.length) : startOf (behL b l m) (l.length + s) ≤ l.length + startOf m s := by
  have h := startOf_ok B.im hs
  refine start_le B.inc (by rw [beh_len]; omega) fun j h1 h2 => ?_
  obtain ⟨j', rfl⟩ : ∃ j', j = l.length + j' := ⟨j - l.length, by omega⟩
  obtain ⟨k, k1, k2, k3⟩ := h.ch j' (by omega) (by omega)
  refine ⟨l.length + k, by omega, by omega, ?_⟩
  rw [(beh_r (show j' < m.length by omega)).1, (beh_r (show k < m.length by omega)).1, (beh_r (show k < m.length by omega)).2]
  omega
theorem Beh.start_far (B : Beh b l m) (far : ∀ i, i < m.length → pl l (l.length - 1) + ht m i < pl m 0 + b) {s : Nat} (hs : s < m.length) : startOf (behL b l m) (l.length + s) = l.length + startOf m s := by
  have h := startOf_ok B.im hs
  have hle := h.le
  have hl := B.il.n0
  refine start_of B.inc ⟨by omega, by rw [beh_len]; omega, fun j h1 h2 => ?_, fun hn k h1 h2 => ?_⟩
  · obtain ⟨j', rfl⟩ : ∃ j', j = l.length + j' := ⟨j - l.length, by omega⟩
    obtain ⟨k, k1, k2, k3⟩ := h.ch j' (by omega) (by omega)
    refine ⟨l.length + k, by omega, by omega, ?_⟩
    rw [(beh_r (show j' < m.length by omega)).1, (beh_r (show k < m.length by omega)).1, (beh_r (show k < m.length by omega)).2]
    omega
  · obtain ⟨k', rfl⟩ : ∃ k', k = l.length + k' := ⟨k - l.length, by omega⟩
    rw [(beh_r (show k' < m.length by omega)).1, (beh_r (show k' < m.length by omega)).2]
    rcases Nat.eq_zero_or_pos (startOf m s) with q | q
    · rw [q, Nat.add_zero, (beh_l (show l.length - 1 < l.length by omega)).1]
      have h3 := far k' (by omega)
      have h4 := B.im.ge0 (show k' < m.length by omega)
      omega
    · have := h.st q k' (by omega) (by omega)
      rw [show l.length + startOf m s - 1 = l.length + (startOf m s - 1) by omega, (beh_r (show startOf m s - 1 < m.length by omega)).1]
      omega
end
/-! ## what == can read -/
structure Shp (d : PyData) (n : Nat) : Prop where
  ly : d.canLay0 = true
  de : d.depth ≤ n
theorem shp_int (i : Int) (n : Nat) : Shp (.int i) n := ⟨by simp [PyData.canLay0], by simp [PyData.depth]⟩
theorem shp_all {xs : List PyData} {n : Nat} (h : ∀ x ∈ xs, Shp x n) : PyData.canLayAll0 xs = true ∧ PyData.depthAll xs ≤ n := by
  induction xs with
  | nil => exact ⟨by simp [PyData.canLayAll0], by simp [PyData.depthAll]⟩
  | cons x xs ih =>
    have h1 := h x (by simp)
    have h2 := ih fun y hy => h y (by simp [hy])
    refine ⟨by simp [PyData.canLayAll0, h1.ly, h2.1], ?_⟩
    have h3 := h1.de
    have h4 := h2.2
    simp only [PyData.depthAll]
    omega
theorem shp_tup {xs : List PyData} {n : Nat} (h : ∀ x ∈ xs, Shp x n) : Shp (.tuple xs) (n + 1) := by
  have := shp_all h
  exact ⟨by simp [PyData.canLay0, this.1], by simp only [PyData.depth]; omega⟩
theorem shp_lst {xs : List PyData} {n : Nat} (h : ∀ x ∈ xs, Shp x n) : Shp (.list xs) (n + 1) := by
  have := shp_all h
  exact ⟨by simp [PyData.canLay0, this.1], by simp only [PyData.depth]; omega⟩
theorem Shp.shaped {d : PyData} {n : Nat} (h : Shp d n) (hn : n ≤ 64 := by decide) : SeqAt.shaped d = true := by
  unfold SeqAt.shaped
  rw [h.ly, Bool.true_and]
  exact decide_eq_true (Nat.le_trans h.de hn)
theorem shp_pair (a b : Int) : Shp (.tuple [.int a, .int b]) 1 := shp_tup fun x hx => by
  simp only [List.mem_cons, List.not_mem_nil, or_false] at hx
  rcases hx with rfl | rfl <;> exact shp_int _ 0
theorem shp_quad (a b c d : Int) : Shp (.tuple [.tuple [.int a, .int b], .tuple [.int c, .int d]]) 2 := shp_tup fun x hx => by
  simp only [List.mem_cons, List.not_mem_nil, or_false] at hx
  rcases hx with rfl | rfl <;> exact shp_pair _ _
end DL

namespace DL
open PySem PySem.Spec L2
/-- xs.insert(0, d) -/
def uIns : Mut := fun xs ds => match ds with
  | [.int i, d] => if xs.length < sizeLine ∧ i = 0 then some (.none, d :: xs) else none
  | _ => none
def rInsert : V → List V → Hp → VK → Prop := fun x vs H Q => ∃ (l : Addr) (xs : List V) (i : Int) (y : V), x = .ref l ∧ vs = [.int i, y] ∧ H l = some (.lst xs) ∧ xs.length < sizeLine ∧ 0 ≤ i ∧ i < 2 ^ 63 ∧
    Q .non (upd H l (.lst (xs.take i.toNat ++ [y] ++ xs.drop i.toNat)))
theorem mt_insert' {X : Cx} : MtR X "list.insert" rInsert := mt_insert
theorem mut_ins {K : PySem.W.Frag} : MutOk K rInsert uIns := by
  intro F l ws xs vs ds H Q res xs' hF hl ha hv e k
  unfold uIns at e
  split at e
  · cases hv with
    | cons h1 h2 =>
      cases h2 with
      | cons h2 h3 =>
        cases h3
        cases h1
        split at e
        · rename_i hz
          cases e
          obtain ⟨hz, rfl⟩ := hz
          refine ⟨l, ws, 0, _, rfl, rfl, hl, by rw [ha.length]; exact hz, by decide, by decide, ?_⟩
          exact k _ _ .non (.cons h2 ha)
        · cases e
  · cases e
theorem side_shp {x : Str} (h : x = "left" ∨ x = "right") : SeqAt.shaped (.str x) = true := by
  rcases h with rfl | rfl <;> decide +kernel
end DL

namespace DL
open PySem PySem.Spec L2 PySem.W
/-! ## a def that is given the error that a suite holds -/
theorem mark_self {A : Around} {v : Value} (h : A.handled = some v) : A.mark (some v) = A := by
  cases A
  cases h
  rfl
theorem Inv.xe {X : Cx} {pins : List (Addr × Obj)} {σ : L2.St} {H : Hp} {s : Shared} {e e' : Value → Shared → Prop} (I : Inv { X with xe := e } pins σ H s) : Inv { X with xe := e' } pins σ H s := by
  obtain ⟨k, i2, i3, i4, i5, i6, i7, i8, i9, i10, i11⟩ := I
  obtain ⟨j1, j2, j3, j4, j5, j6, j7, j8, j9, j10, j11, j12, j13, j14, j15, j16, j17, j18⟩ := k
  exact ⟨⟨j1, j2, j3, j4, j5, j6, j7, j8, j9, j10, j11, j12, j13, j14, j15, j16, j17, j18⟩, i2, i3, i4, i5, i6, i7, i8, i9, i10, i11⟩
theorem pss_xe {X : Cx} {b : List Stmt} {t : TS} {e : Value → Shared → Prop} (h : PSs { X with xe := fun _ _ => False } b t) : PSs { X with xe := e } b t :=
  ⟨fun pins s σ H D I q => wpAny_mono (h.run pins s σ H D (Inv.xe I) q) (fun fl s' z => by
    cases fl with
    | next => obtain ⟨a, c, J, q⟩ := z; exact ⟨a, c, Inv.xe J, q⟩
    | brk => obtain ⟨a, c, J, q⟩ := z; exact ⟨a, c, Inv.xe J, q⟩
    | cont => obtain ⟨a, c, J, q⟩ := z; exact ⟨a, c, Inv.xe J, q⟩
    | ret u => obtain ⟨v, a, c, J, r, q⟩ := z; exact ⟨v, a, c, Inv.xe J, r, q⟩) fun _ _ z => z.elim⟩
section
variable {P : Program} {w : World} {K : PySem.W.Frag} {mg : Str → Option Value} {base : Heap}
theorem run_hot {f a : Addr} {oe : Obj} {x qual y : Str} {st : Stmt} {fd : FuncData} {N : List Str} {A : Around} {outer : List PySem.Env} {s : Shared} {H : Hp} {Q : VK} (T : L2.Fun K x qual st f fd) (S : FnScope N [y] (L2.defScope st)) (hb : Binds K fd [y] [])
    (hr : L2H.RoomH 1 A) (hh : A.handled = some (.ref a)) (hp : L2H.PinOk outer H s (a, oe)) (e0 : Env0 P w K mg base A outer s H)
    (hbody : ∀ cdv, ∃ t, PSs ((cxOf L2.CX0 P w K mg base N qual (L2.defScope st) f cdv A outer s H L2.E0).suite a [(a, oe)]) (L2.defBody st) t ∧ t { nx := fun _ H' => Q .non H', rt := Q } (L2.start N [.ref a]) H) :
    codeAny (model P w) A (.call (.ref f) ⟨[.ref a], []⟩) (CR L2.CX0 outer P w H s Q L2.E0) s := by
  obtain ⟨oc, od, kV, doc, pm, an, cdv, ct, osl, efd, lk, hcd⟩ := T.ex
  subst efd
  have kin := e0.mod.kin.keeps fun b o e => (e0.bs b o e).1
  have nolim := e0.mod.nolimit.keeps fun b o e => (e0.bs b o e).1
  have bind := hb s [.ref a] kin rfl
  refine codeAny_call_function hr.depth (kin _ _ lk) rfl S.co S.gen rfl
    (PySem.W.codeRec_of kin hcd) (bind _ _ _ _ ?_)
  refine wpAny_newFunctionEnv_cells S.kind (fun z hz => ?_) fun env he s1 ic => ?_
  · have ez : z.1 ∈ [y] := by
      have h1 : z ∈ [y].zip [Value.ref a] := by simpa using hz
      exact (List.of_mem_zip (a := z.1) (b := z.2) h1).1
    exact (S.par z.1 ez).elim .inl fun q => .inr ⟨q, PySem.W.cellsFrom_some _ _ _ (.inl q)⟩
  subst he
  refine ⟨nolim.keeps ic.toInCall.keep, codeAny_func ?_⟩
  obtain ⟨t, ht, hq⟩ := hbody cdv
  have hm : ∀ env, (A.deeper env).mark (some (.ref a)) = A.deeper env := fun env => mark_self hh
  have I0 := L2H.inv_startH (CX := L2.CX0) (P := P) (w := w) (mg := mg) (f := f) (cd := cdv) (E := L2.E0) (vs := [V.ref a]) (us := [Value.ref a]) S hp e0 rfl (.cons rfl .nil) ic
  have eX : (cxOf L2.CX0 P w K mg base N qual (L2.defScope st) f cdv A outer s H L2.E0).suite a [(a, oe)] = { L2H.cxH L2.CX0 P w K mg base N qual (L2.defScope st) f cdv A outer s H L2.E0 (a, oe) with xe := fun _ _ => False } := by
    unfold Cx.suite L2H.cxH
    show Cx.mk .. = Cx.mk ..
    simp only [cxOf, hm]
  rw [eX] at ht
  have ht2 := pss_xe (e := (L2H.cxH L2.CX0 P w K mg base N qual (L2.defScope st) f cdv A outer s H L2.E0 (a, oe)).xe) ht
  refine wpAny_mono (ht2.run [] s1 _ H _ I0 hq) (fun fl s' hs => ?_) fun e s' hs => hs
  cases fl with
  | next =>
    obtain ⟨σ', H', J, q⟩ := hs
    exact ⟨.non, H', J.os, J.bare, J.base, J.hok, rfl, q⟩
  | brk =>
    obtain ⟨_, _, _, q⟩ := hs
    exact q.elim
  | cont =>
    obtain ⟨_, _, _, q⟩ := hs
    exact q.elim
  | ret u' =>
    obtain ⟨v', σ', H', J, rv, q⟩ := hs
    exact ⟨v', H', J.os, J.bare, J.base, J.hok, rv, q⟩
/-- L: the classes of the errors that it is given; mf e R: what it hands back for e -/
structure DFnE (P : Program) (w : World) (K : PySem.W.Frag) (mg : Str → Option Value) (base : Heap) (L : List Str) (x : Str) (mf : DExc → (DV → Prop) → Prop) : Prop where
  ex : ∃ f, mg x = some (.ref f) ∧ PySem.W.keepIn K (.ref f) = true ∧ ∀ (A : Around) (outer : List PySem.Env) (s : Shared) (H F : Hp) (Q : VK) (a C : Addr) (d : Option Addr) (oe : Obj) (er : DExc) (G : Gm) (R : DV → Prop), A.guards = some [] → L2H.RoomH 1 A → A.handled = some (.ref a) → L2H.PinOk outer H s (a, oe) → Env0 P w K mg base A outer s H →
    Zc (.ref C) d oe → (∃ vs, oe.data = .fields vs) → C = clsA mg er.cls → er.cls ∈ L → G.K = K → G.n ≤ G.lim → Good G F [some (.exc a C d er)] [some (.ref a)] H → mf er R → (∀ r, R r → r.arg = true → ∀ v F' H', Good G F' [some r] [some v] H' → Q v H') →
    codeAny (model P w) A (.call (.ref f) ⟨[.ref a], []⟩) (CR L2.CX0 outer P w H s Q L2.E0) s
def WF : WC := ⟨fun _ _ _ _ => False, fun _ _ _ _ => True⟩
theorem dfnE_of {x qual y : Str} {st : Stmt} {f : Addr} {fd : FuncData} {N : List Str} {L : List Str} {ms : Addr → Addr → Option Addr → MS} {mf : DExc → (DV → Prop) → Prop} (hm : mg x = some (.ref f)) (T : L2.Fun K x qual st f fd) (hb : Binds K fd [y] []) (S : FnScope N [y] (L2.defScope st))
    (body : ∀ (cdv : Value) (A : Around) (outer : List PySem.Env) (s : Shared) (H : Hp) (a : Addr) (oe : Obj) (C : Addr) (d : Option Addr), (∃ cn, cn ∈ L ∧ C = clsA mg cn) → Zc (.ref C) d oe → (∃ vs, oe.data = .fields vs) → CtxU ((cxOf L2.CX0 P w K mg base N qual (L2.defScope st) f cdv A outer s H L2.E0).suite a [(a, oe)]) →
      DSs ((cxOf L2.CX0 P w K mg base N qual (L2.defScope st) f cdv A outer s H L2.E0).suite a [(a, oe)]) WF (L2.defBody st) (ms a C d) 0)
    (post : ∀ (er : DExc) (R : DV → Prop), mf er R → er.cls ∈ L → ∀ a d, ms a (clsA mg er.cls) d ex0 { nx := fun _ => R (.d .none), rt := R, bk := fun _ => False, ct := fun _ => False } (some (.exc a (clsA mg er.cls) d er) :: List.replicate (N.length - 1) none)) : DFnE P w K mg base L x mf := by
  refine ⟨f, hm, T.kp, fun A outer s H F Q a C d oe er G R hg hr hh hp e0 hz hf hC hL hK hn g h hR => ?_⟩
  subst hC
  refine run_hot (K := K) T S hb hr hh hp e0 fun cdv => ?_
  refine ⟨_, (body cdv A outer s H a oe _ d ⟨_, hL, rfl⟩ hz hf ⟨hg, by have := hr.un; show A.units + 3 + 200 < _; omega⟩).pss, ?_⟩
  have g2 := g.more (N.length - 1)
  refine ⟨ex0, G, F, _, [], [], { nx := fun _ => R (.d .none), rt := R, bk := fun _ => False, ct := fun _ => False }, ⟨hK, ?_, rfl, by simpa [L2.start] using g2, pass_blk (W := WF), trivial, hn⟩, ?_, ⟨fun δ' h' b σ' F' H' hb l' nb' g' => ?_, fun _ z => z.elim, fun _ z => z.elim, fun r hr ha b v F' H' hb g' => hR r hr ha v F' H' (g'.mono hb)⟩, post er R h hL a d⟩
  · simp [L2.start]
  · intro i z e
    simp only [List.append_nil] at e
    cases i with
    | zero => cases e; rfl
    | succ i =>
      rw [List.getElem?_cons_succ, List.getElem?_replicate] at e
      split at e <;> cases e
  · refine hR _ h' rfl .non F' H' ?_
    have g0 : Good (G.up b) F' ([] : Env) ([] : L2.St) H' := Good.cut (A := []) (A' := []) (B := δ' ++ []) (B' := σ' ++ []) g'.len g'
    exact (Good.pushD g0 .non).mono hb
end
section
variable {u : Nat} {X : Cx} {W : WC} {a C : Addr} {oe : Obj} {d : Option Addr} {pn : List (Addr × Obj)} {e : Expr} {me : ME} {pos p : Pos} {k : Nat} {L : List Str} {x : Str} {mf : DExc → (DV → Prop) → Prop} {mg' : Str → Option Value}
/-- f(error) -/
def mCallE (mg : Str → Option Value) (L : List Str) (mf : DExc → (DV → Prop) → Prop) (a C : Addr) (d : Option Addr) (me : ME) : ME := fun ex δ R => me ex δ fun x => oHeld mg L a C d x fun er => mf er R
theorem de_callE (c : Ctx X W k) (hk : 1 ≤ k) (F : DFnE X.prog X.w X.K X.mg X.base L x mf) (hz : Zc (.ref C) d oe) (hf : ∃ vs, oe.data = .fields vs) (hg : Gl (X.suite a ((a, oe) :: pn)) x) (he : DE (X.suite a ((a, oe) :: pn)) (W0 W) e me u) (hmg : X.mg = mg' := by rfl) (hdb : (x == ("__debug__" : Str)) = false := by decide)
    (hs : starEach [e] X.env = (false, eval e X.env) :: starEach [] X.env := by rfl) (hpl : (backTo pos (starEach [] X.env)).any (·.1) = false := by rfl) :
    DE (X.suite a ((a, oe) :: pn)) (W0 W) (.Call (.Name x p) [e] [] pos) (mCallE mg' L mf a C d me) u := by
  subst hmg
  obtain ⟨f, hm, hkp, hF⟩ := F.ex
  have ha : DA (X.suite a ((a, oe) :: pn)) (W0 W) [e] (mCons me mNil) (u + 0) := da_cons he da_nil hs
  refine ⟨⟨fun pins s σ H Q I h => ?_⟩⟩
  have h' : liftA X.K X.mg (W0 W) (u + 0) (mCons me mNil) σ H fun vs H1 => vs = [.ref a] ∧ ∃ (G : Gm) (F : Hp) (er : DExc) (R : DV → Prop), C = clsA X.mg er.cls ∧ er.cls ∈ L ∧ G.K = X.K ∧ G.n ≤ G.lim ∧ Good G F [some (.exc a C d er)] [some (.ref a)] H1 ∧ mf er R ∧ (∀ r, R r → r.arg = true → ∀ v F' H', Good G F' [some r] [some v] H' → Q v H') := by
    obtain ⟨ex, G, F, δ, τ, ts, τ1, ts1, R, nw, m, kk⟩ := h
    refine ⟨ex, G, F, δ, τ, ts, τ1, ts1, fun xs => match xs with | [x] => oHeld X.mg L a C d x fun er => mf er R | _ => False, nw, m, fun xs hxs vs F1 H1 hl g1 => ?_⟩
    match xs, hxs, hl, g1 with
    | [z], hz', hl, g1 =>
      obtain ⟨v, rfl, hv, g2⟩ := one_of hl g1
      cases z with
      | exc a' C' d' er =>
        obtain ⟨rfl, rfl, rfl, h1, h2, h3⟩ := hz'
        have ev : v = .ref a' := hv.1
        subst ev
        have g3 : Good (G.up (u + 0)) F1 ([] : Env) ([] : L2.St) H1 := Good.cut (A := []) (A' := []) (B := δ ++ τ ++ τ1) (B' := σ ++ ts ++ ts1) (by simpa using g2.len) (by simpa using g2)
        have g4 := g3.base (fun i x e => by simp at e)
        have g5 := g4.push (v := .ref a') (dv := .exc a' C' d' er) (by obtain ⟨cn, arg⟩ := er; cases arg <;> exact hv) (fun z => by cases z)
        refine ⟨rfl, (G.up (u + 0)).into F1 H1, F1, er, R, h1, h2, nw.k, nw.ck.2, by simpa using g5, h3, fun r hr ha v F' H' g' => kk r hr v F' H' ?_⟩
        exact g2.ret (u := 0) (δ₁ := []) (σ₁ := []) ha g'
      | _ => exact hz'.elim
  refine wpAny_Call_Name_kw (ld_glob I hg hm ?_ hdb)
  refine PySem.W.callWith_K (h₀ := X.base) I.ok.mod.kin hkp (thn (ha.pa.run pos pins s σ H _ I h') fun us s1 hq => ?_) hs hpl
  obtain ⟨vs, H1, I1, r, rfl, G, F, er, R, q1, q2, q3, q4, q5, q6, q7⟩ := hq
  refine ⟨I1.kIn, ?_⟩
  have P1 := I1.pin (a, oe) (List.mem_append_left _ List.mem_cons_self)
  have hpin : L2H.PinOk X.stack H1 s1 (a, oe) := ⟨P1.1, P1.2.1, fun hm => (List.mem_cons.mp (I1.stkSub a hm)).elim P1.2.2.1 P1.2.2.2.1, P1.2.2.2.2⟩
  have hr := c.hr.mono hk
  cases r with
  | cons r1 r2 =>
    cases r2
    cases r1
    refine wpAny_call (codeAny_mono (hF (X.A.mark (some (.ref a))) X.stack s1 H1 F Q a C d oe er G R c.gd ⟨hr.dp, hr.un⟩ rfl hpin I1.env0 hz hf q1 q2 q3 q4 q5 q6 q7) fun res s' z => ?_)
    match res, z with
    | .error e, z => exact z.elim
    | .ok (.ret u), z => exact I1.after z
end
end DL

namespace DL
open PySem PySem.Spec L2
/-! ## str(n) -/
section
variable {u : Nat} {X : Cx} {W : WC} {e : Expr} {pos p : Pos} {mas : MA}
/-- a number's text -/
def txtI (i : Int) : Str := toString i
def oStr : D1 := fun x R => match x with
  | .d (.int i) => i.natAbs.log2 < 1920 ∧ R (.d (.str (txtI i)))
  | _ => False
theorem on_str : OpN X (fun xs H Q => ∃ i, xs = [.int i] ∧ i.natAbs.log2 < 1920 ∧ Q (.str (toString i)) H) (o1 oStr) := on_1 fun G F δ σ H v x R Q hK g hx h k => by
  match x, h, hx with
  | .d (.int i), h, hx =>
    cases int_of hx
    exact ⟨i, rfl, h.1, k _ h.2 _ F H (g.pushD (.str _))⟩
theorem de_strC (hg : Gl X "str") (hm : X.mg "str" = none) (ha : DA X W [e] mas u) (he : starEach [e] X.env = (false, eval e X.env) :: starEach [] X.env := by rfl) (hpl : (backTo pos (starEach [] X.env)).any (·.1) = false := by rfl) :
    DE X W (.Call (.Name "str" p) [e] [] pos) (mCB (o1 oStr) mas) u := de_callTy call_str_int on_str hg hm (by decide +kernel) ha (by decide) (by decide) he hpl
theorem log_txt {i : Int} (h : -(2 ^ 100) ≤ i ∧ i ≤ 2 ^ 100) : i.natAbs.log2 < 1920 := by
  rcases Nat.eq_zero_or_pos i.natAbs with e | e
  · rw [e]; decide
  · have h2 : i.natAbs < 2 ^ 1920 := by
      have e1 : ((2 ^ 100 : Nat) : Int) = 2 ^ 100 := by norm_cast
      have : i.natAbs ≤ 2 ^ 100 := by omega
      exact Nat.lt_of_le_of_lt this (Nat.pow_lt_pow_right (by decide) (by decide))
    exact (Nat.log2_lt (by omega)).mpr h2
end
theorem oStr_i {i : Int} {R : DV → Prop} : oStr (.d (.int i)) R = (i.natAbs.log2 < 1920 ∧ R (.d (.str (txtI i)))) := rfl
end DL

namespace DL
open PySem PySem.Spec L2 PySem.W
/-! ## raise X() where X has no __init__ of its own -/
abbrev veB : List Value := [.type "ValueError", .type "Exception", .type "BaseException", .type "object"]
structure XMk0 (K : Frag) (mg : Str → Option Value) (x : Str) : Prop where
  ex : ∃ C, mg x = some (.ref C) ∧ excIn K C veB "ValueError.__new__" = true ∧ keepIn K (.ref C) = true ∧ subIn K (.ref C) (.type "BaseException") = some true ∧ typeIn K (.ref C) = some (.type "type")
section
variable {X : Cx} {W : WC} {x : Str} {p p2 pos : Pos} {k : Nat}
theorem pmk0 {C : Addr} (q : excIn X.K C veB "ValueError.__new__" = true) (gC : X.mg x = some (.ref C)) (kC : keepIn X.K (.ref C) = true) (r : Raises X (.ref C)) (hg : Gl X x) (hdb : (x == ("__debug__" : Str)) = false := by decide) :
    PMk X (.Call (.Name x p) [] [] pos) (fun _ H Q => Q (.ref C) none H) := by
  intro pins s σ H Q I h
  refine wpAny_Call_Name_kw (ld_glob I hg gC ?_ hdb)
  refine PySem.W.callWith_K0 I.kIn kC ?_
  obtain ⟨bm, N, nm, qn, bs, hdct, sn, sub, ab, col, dd, k0, k1, k2, k3, k5, mN, hC, hN, hni, T⟩ := exc_obj I.kIn q
  exact wpAny_call_exc_subT PySem.F.excBase_ValueError T hC hN hni
    (fun h' e hm => mk_of I hm r h (I.hok.gone hm.new)) (by decide)
def mRaise0 (x : Str) : MS := fun ex E δ => ex ⟨x, none⟩ δ
theorem ds_raise0 (c : Ctx X W k) (M : XMk0 X.K X.mg x) (hc : X.calm = true) (hg : Gl X x) (hdb : (x == ("__debug__" : Str)) = false := by decide) : DS X W (.Raise (some (.Call (.Name x p) [] [] pos)) none p2) (mRaise0 x) 0 := by
  obtain ⟨C, hm, h1, h2, h3, h4⟩ := M.ex
  refine ⟨PS.imp (ps_raise hc c.tk (pmk0 h1 hm h2 (raises_own h3 h4) hg hdb)) ?_⟩
  rintro D σ H ⟨ex, G, F, δ, τ, ts, E, n, nb, eo, m⟩
  exact n.link 0 F δ σ H [] [] ⟨x, none⟩ (.ref C) none (Nat.le_refl _) n.l1 (n.good.later 0) ⟨C, hm, rfl, rfl⟩ m
end
end DL

namespace DL
open PySem PySem.Spec L2 PySem.W
/-! ## sorted(list of stones) -/
def rSortedP (K : Frag) : List V → Hp → VK → Prop := fun vs H Q => ∃ (a : Addr) (xs : List V) (ps : List (Int × Int)) (F : Hp), vs = [.ref a] ∧ SqL K H a xs ∧ Same F H ∧ AtL K F xs (ps.map stD) ∧
  ∀ ys l, AtL K F ys ((ps.mergeSort (dataLe false stD)).map stD) → H l = none → Q (.ref l) (upd H l (.lst ys))
theorem each_in {K : Frag} {F : Hp} : ∀ {xs : List V} {us : List Value} {ps : List (Int × Int)}, Vals xs us → AtL K F xs (ps.map stD) → EachIs (fun v b => ∃ x, RelV x v ∧ At K F x (stD b)) us ps
  | [], _, ps, r, h => by
    cases r
    cases ps with
    | nil => exact .nil
    | cons _ _ => cases h
  | x :: xs, _, ps, r, h => by
    cases r with
    | cons r1 r2 =>
      cases ps with
      | nil => cases h
      | cons p ps =>
        cases h with
        | cons h1 h2 => exact .cons ⟨x, r1, h1⟩ (each_in r2 h2)
theorem each_out {K : Frag} {F : Hp} : ∀ {us : List Value} {ps : List (Int × Int)}, EachIs (fun v b => ∃ x, RelV x v ∧ At K F x (stD b)) us ps → ∃ ys, Vals ys us ∧ AtL K F ys (ps.map stD)
  | _, _, .nil => ⟨[], .nil, .nil⟩
  | _, _, .cons ⟨x, r, h⟩ t => by
    obtain ⟨ys, r2, h2⟩ := each_out t
    exact ⟨x :: ys, .cons r r2, .cons h h2⟩
theorem cr_sortedP {X : Cx} (hu : X.A.units + 64 < cLine) : CallR X (.builtin "sorted") (rSortedP X.K) := by
  intro pins s σ H vs us Q I r h
  obtain ⟨a, xs, ps, F, rfl, hs, hF, hat, q⟩ := h
  obtain ⟨its, rv, hl, hz⟩ := I.list hs
  rw [Vals.ref1 r]
  have e := each_in rv hat
  have er : EachIs (fun v b => ∃ as, Reads s.heap v (stD b) as) its ps := e.mono fun v b ⟨x, r1, h1⟩ => At.reads I hF (stD b) x v (by simp [stD, PyData.hasDict, PyData.hasDictAll]) h1 r1
  have hd : ∀ b : Int × Int, (stD b).depth ≤ 1 := fun b => by simp [stD, PyData.depth, PyData.depthAll]
  refine sorted_data (enc := stD) hl.isList e er (AllAlike.of fun _ _ => by simp [stD, alike, alikeAll]) (Sortable.tuples fun _ => ⟨_, _, rfl⟩) (by have h1 := hat.length; rw [List.length_map] at h1; omega) (fun b _ => by have := hd b; omega) fun out h1 eo => ?_
  obtain ⟨ys, k1, k2⟩ := each_out eo
  obtain ⟨ep, he'⟩ := PyProof.Rows.sortedAll_at s.heap its out.toArray
  have hlen : ys.length ≤ sizeLine := by
    have h2 := k2.length
    have h3 := hat.length
    rw [List.length_map] at h2 h3
    rw [h2, List.length_mergeSort]
    omega
  exact ⟨.ref _, upd H (s.heap.objs.size + 1) (.lst ys), I.laid (t' := s.toks) (fun _ _ => PyProof.Rows.sortedAll_old) (Nat.le_succ _) ⟨hlen, out, ep, k1, he'⟩, rfl, q _ _ k2 (I.hok.fresh (Nat.le_succ _))⟩
def pairOf : PyData → Option (Int × Int)
  | .tuple [.int a, .int b] => some (a, b)
  | _ => none
def pairsL : List PyData → Option (List (Int × Int))
  | [] => some []
  | d :: ds => match pairOf d, pairsL ds with
    | some p, some ps => some (p :: ps)
    | _, _ => none
theorem pairOf_eq {d : PyData} {p : Int × Int} (h : pairOf d = some p) : d = stD p := by
  unfold pairOf at h
  split at h
  · cases h; rfl
  · cases h
theorem pairsL_eq : ∀ {ds : List PyData} {ps : List (Int × Int)}, pairsL ds = some ps → ds = ps.map stD
  | [], _, h => by cases h; rfl
  | d :: ds, ps, h => by
    unfold pairsL at h
    split at h
    · rename_i p ps' h1 h2
      cases h
      rw [pairOf_eq h1, pairsL_eq h2]
      rfl
    · cases h
theorem pairsL_map : ∀ ps : List (Int × Int), pairsL (ps.map stD) = some ps
  | [] => rfl
  | p :: ps => by
    show (match pairOf (stD p), pairsL (ps.map stD) with
      | some p, some ps => some (p :: ps)
      | _, _ => none) = _
    rw [pairsL_map ps]
    rfl
def sortP (ps : List (Int × Int)) : List (Int × Int) := ps.mergeSort (dataLe false stD)
def oSortedP : D1 := fun x R => match x.lst with
  | some ds => match pairsL ds with
    | some ps => R (.own ((sortP ps).map stD))
    | none => False
  | none => False
theorem on_sortedP {X : Cx} : OpN X (rSortedP X.K) (o1 oSortedP) := on_1 fun G F δ σ H v x R Q hK g hx h k => by
  unfold oSortedP at h
  split at h
  · rename_i ds e
    split at h
    · rename_i ps e2
      obtain ⟨l, vs, rfl, h1, h2⟩ := lst_of hx g.fh e
      rw [pairsL_eq e2] at h2
      refine ⟨l, vs, ps, F, rfl, SqL.of h1, g.fh, by rw [← hK]; exact h2, fun ys p hys hp => ?_⟩
      exact k _ h _ _ _ (g.newO hp (by rw [hK]; exact hys))
    · exact h.elim
  · exact h.elim
section
variable {u : Nat} {X : Cx} {W : WC} {e : Expr} {pos p : Pos} {mas : MA}
theorem de_sortedP (cx : CtxU X) (hg : Gl X "sorted") (hm : X.mg "sorted" = none) (ha : DA X W [e] mas u) (he : starEach [e] X.env = (false, eval e X.env) :: starEach [] X.env := by rfl) (hpl : (backTo pos (starEach [] X.env)).any (·.1) = false := by rfl) :
    DE X W (.Call (.Name "sorted" p) [e] [] pos) (mCB (o1 oSortedP) mas) u := de_callB (cr_sortedP cx.u64) on_sortedP hg hm (by decide +kernel) ha (by decide) (by decide) he hpl
end
end DL

namespace DL
open PySem PySem.Spec L2 PySem.W
/-! ## min(list of pairs) -/
def rMinP (K : Frag) : List V → Hp → VK → Prop := fun vs H Q => ∃ (a : Addr) (xs : List V) (p : Int × Int) (ps : List (Int × Int)) (F : Hp), vs = [.ref a] ∧ SqL K H a xs ∧ Same F H ∧ AtL K F xs ((p :: ps).map stD) ∧ ∀ v, At K F v (minD (stD p) (ps.map stD)) → Q v H
theorem vals_nth : ∀ {xs : List V} {us : List Value} {i : Nat} {u : Value}, Vals xs us → us[i]? = some u → ∃ x, xs[i]? = some x ∧ RelV x u
  | _, _, i, u, .nil, e => by simp at e
  | _, _, 0, u, .cons r _, e => by
    simp at e
    subst e
    exact ⟨_, rfl, r⟩
  | _, _, i + 1, u, .cons _ t, e => by
    obtain ⟨x, h1, h2⟩ := vals_nth (i := i) t (by simpa using e)
    exact ⟨x, by simpa using h1, h2⟩
theorem reads_ps {K : Frag} {F : Hp} {h : Heap} : ∀ {xs : List V} {us : List Value} {ps : List (Int × Int)}, Vals xs us → AtL K F xs (ps.map stD) → (∀ (x : V) (u : Value) (p : Int × Int), RelV x u → At K F x (stD p) → ∃ as, Reads h u (stD p) as) → ∃ as, ReadsAll h us (ps.map stD) as
  | [], _, ps, r, q, _ => by
    cases r
    cases ps with
    | nil => exact ⟨_, .nil⟩
    | cons _ _ => cases q
  | x :: xs, _, ps, r, q, f => by
    cases r with
    | cons r1 r2 =>
      cases ps with
      | nil => cases q
      | cons p ps =>
        cases q with
        | cons h1 h2 =>
          obtain ⟨as, a1⟩ := f _ _ p r1 h1
          obtain ⟨bs, a2⟩ := reads_ps r2 h2 f
          exact ⟨_, .cons a1 a2⟩
theorem depth_ps : ∀ ps : List (Int × Int), PyData.depthAll (ps.map stD) ≤ 1
  | [] => by simp [PyData.depthAll]
  | p :: ps => by
    have := depth_ps ps
    simp only [List.map_cons, PyData.depthAll]
    have hd : (stD p).depth ≤ 1 := by simp [stD, PyData.depth, PyData.depthAll]
    omega
theorem cr_minP {X : Cx} (hc : X.calm = true) (hu : X.A.units + 64 < cLine) : CallR X (.builtin "min") (rMinP X.K) := by
  intro pins s σ H vs us Q I r h
  obtain ⟨a, xs, p, ps, F, rfl, hs, hF, hat, q⟩ := h
  obtain ⟨its, rv, hl, hz⟩ := I.list hs
  rw [Vals.ref1 r]
  have er : ∀ (x : V) (u : Value) (p : Int × Int), RelV x u → At X.K F x (stD p) → ∃ as, Reads s.heap u (stD p) as := fun x u p r1 h1 => At.reads I hF (stD p) x u (by simp [stD, PyData.hasDict, PyData.hasDictAll]) h1 r1
  obtain ⟨as, hr⟩ := reads_ps rv hat er
  have hd := depth_ps (p :: ps)
  simp only [List.map_cons] at hd
  refine min_list_data (I.ok.hd hc) hl.isList hr ⟨fun x hx y hy => ?_, fun x hx => ?_⟩ (by omega) fun i v h' tk bs hv rd hk => ?_
  · obtain ⟨b, _, rfl⟩ := List.mem_map.mp (show x ∈ (p :: ps).map stD from hx)
    obtain ⟨c, _, rfl⟩ := List.mem_map.mp (show y ∈ (p :: ps).map stD from hy)
    simp [stD, alike, alikeAll]
  · obtain ⟨b, _, rfl⟩ := List.mem_map.mp (show x ∈ (p :: ps).map stD from hx)
    intro z; cases z
  · obtain ⟨x, hx, rx⟩ := vals_nth rv (by simpa using hv)
    obtain ⟨d, hdd, hA⟩ := hat.get' hx
    rw [List.getElem?_map] at hdd
    obtain ⟨b, hb, rfl⟩ : ∃ b, (p :: ps)[i]? = some b ∧ stD b = d := by
      cases e : (p :: ps)[i]? with
      | none => rw [e] at hdd; cases hdd
      | some b => rw [e] at hdd; exact ⟨b, rfl, Option.some.inj hdd⟩
    obtain ⟨cs, hR⟩ := er x v b rx hA
    have e := (PyProof.Rows.reads_det (fun b o e _ => hk b o e) hR rd).1
    refine ⟨x, H, I.kept hk, rx, q x ?_⟩
    rw [e]
    exact hA
theorem lt_ii (p q : Int × Int) : dataLt (stD p) (stD q) = decide (p.1 < q.1 ∨ (p.1 = q.1 ∧ p.2 < q.2)) := by
  have e : PySem.W.dataLe false stD = fun p q : Int × Int => decide (p.1 < q.1 ∨ (p.1 = q.1 ∧ p.2 ≤ q.2)) := PySem.W.dataLe_ii (β := Int × Int) (fun p => p.1) fun p => p.2
  have h := congrFun (congrFun e q) p
  have h2 : (!dataLt (stD p) (stD q)) = decide (q.1 < p.1 ∨ (q.1 = p.1 ∧ q.2 ≤ p.2)) := h
  have h3 : dataLt (stD p) (stD q) = !decide (q.1 < p.1 ∨ (q.1 = p.1 ∧ q.2 ≤ p.2)) := by rw [← h2, Bool.not_not]
  rw [h3, Bool.eq_iff_iff]
  simp only [Bool.not_eq_true', decide_eq_false_iff_not, decide_eq_true_eq]
  omega
def PLe (p q : Int × Int) : Prop := p.1 < q.1 ∨ (p.1 = q.1 ∧ p.2 ≤ q.2)
theorem minD_ps : ∀ (ps : List (Int × Int)) (p : Int × Int), ∃ m, m ∈ p :: ps ∧ (∀ q ∈ p :: ps, PLe m q) ∧ minD (stD p) (ps.map stD) = stD m
  | [], p => ⟨p, by simp, fun q hq => by
    rw [List.mem_singleton.mp hq]
    exact .inr ⟨rfl, Int.le_refl _⟩, rfl⟩
  | b :: ps, p => by
    have e : minD (stD p) ((b :: ps).map stD) = minD (if dataLt (stD b) (stD p) then stD b else stD p) (ps.map stD) := rfl
    rw [e, lt_ii]
    by_cases c : b.1 < p.1 ∨ (b.1 = p.1 ∧ b.2 < p.2)
    · rw [if_pos (decide_eq_true c)]
      obtain ⟨m, h1, h2, h3⟩ := minD_ps ps b
      refine ⟨m, List.mem_cons_of_mem _ h1, fun q hq => ?_, h3⟩
      rcases List.mem_cons.mp hq with rfl | hq
      · have := h2 b (by simp)
        unfold PLe at this ⊢
        omega
      · exact h2 q hq
    · rw [if_neg (by simpa using c)]
      obtain ⟨m, h1, h2, h3⟩ := minD_ps ps p
      refine ⟨m, (List.mem_cons.mp h1).elim (fun z => by rw [z]; exact List.mem_cons_self) fun z => List.mem_cons_of_mem _ (List.mem_cons_of_mem _ z), fun q hq => ?_, h3⟩
      rcases List.mem_cons.mp hq with rfl | hq
      · exact h2 q (by simp)
      · rcases List.mem_cons.mp hq with rfl | hq
        · have := h2 p (by simp)
          unfold PLe at this ⊢
          omega
        · exact h2 q (by simp [hq])
def oMinP : D1 := fun x R => match x.lst with
  | some ds => match pairsL ds with
    | some ps => 0 < ps.length ∧ ∀ m ∈ ps, (∀ q ∈ ps, PLe m q) → R (.d (stD m))
    | none => False
  | none => False
theorem on_minP {X : Cx} : OpN X (rMinP X.K) (o1 oMinP) := on_1 fun G F δ σ H v x R Q hK g hx h k => by
  unfold oMinP at h
  split at h
  · rename_i ds e
    split at h
    · rename_i ps e2
      obtain ⟨l, vs, rfl, h1, h2⟩ := lst_of hx g.fh e
      rw [pairsL_eq e2] at h2
      cases ps with
      | nil => exact absurd h.1 (by simp)
      | cons p ps =>
        obtain ⟨m, m1, m2, m3⟩ := minD_ps ps p
        refine ⟨l, vs, p, ps, F, rfl, SqL.of h1, g.fh, by rw [← hK]; exact h2, fun v hv => ?_⟩
        rw [m3] at hv
        exact k _ (h.2 m m1 m2) v F H (g.pushD (by rw [hK]; exact hv))
    · exact h.elim
  · exact h.elim
section
variable {u : Nat} {X : Cx} {W : WC} {e : Expr} {pos p : Pos} {mas : MA}
theorem de_minP (cx : CtxU X) (hc : X.calm = true) (hg : Gl X "min") (hm : X.mg "min" = none) (ha : DA X W [e] mas u) (he : starEach [e] X.env = (false, eval e X.env) :: starEach [] X.env := by rfl) (hpl : (backTo pos (starEach [] X.env)).any (·.1) = false := by rfl) :
    DE X W (.Call (.Name "min" p) [e] [] pos) (mCB (o1 oMinP) mas) u := de_callB (cr_minP hc cx.u64) on_minP hg hm (by decide +kernel) ha (by decide) (by decide) he hpl
end
section
variable {ps : List (Int × Int)} {xs : List PyData} {R : DV → Prop}
theorem oMinP_o : oMinP (.own xs) R = (match pairsL xs with | some ps => 0 < ps.length ∧ ∀ m ∈ ps, (∀ q ∈ ps, PLe m q) → R (.d (stD m)) | none => False) := rfl
theorem oMinP_l : oMinP (.d (.list xs)) R = (match pairsL xs with | some ps => 0 < ps.length ∧ ∀ m ∈ ps, (∀ q ∈ ps, PLe m q) → R (.d (stD m)) | none => False) := rfl
theorem oMinP_b : oMinP (.bor xs) R = (match pairsL xs with | some ps => 0 < ps.length ∧ ∀ m ∈ ps, (∀ q ∈ ps, PLe m q) → R (.d (stD m)) | none => False) := rfl
end
end DL

namespace DL
open PySem PySem.Spec L2 PySem.W
/-! ## a lambda handed to a def: the caller's things while the def runs -/
/-- the fixed part for a def that holds the thing at p -/
def Gm.part (G : Gm) (F H : Hp) (p : Addr) : Gm := { G with F0 := F, B := fun q => if q = p then none else H q }
section
variable {G : Gm} {F F' H H' : Hp} {δ : Env} {σ : L2.St} {v : V} {dv : DV} {p : Addr} {o : HO}
theorem Good.ncp (g : Good G F δ σ H) (hp : H p = none) : ¬ G.C p := fun c => g.g.jn _ H g.jh p c hp
theorem Good.nbp (g : Good G F δ σ H) (hp : H p = none) : G.B p = none := by
  cases q : G.B p with
  | none => rfl
  | some u => rw [g.bh _ _ (g.ncp hp) q] at hp; cases hp
/-- only the things of the draws change -/
theorem Good.outer (g : Good G F δ σ H) (hk : ∀ q, ¬ G.C q → ∀ o, H q = some o → H' q = some o) (hj : G.J G.n H') : Good G F δ σ H' := by
  refine ⟨g.g, g.len, g.f0, fun b u e => hk b (fun c => by rw [g.cf b c] at e; cases e) _ (g.fh _ _ e), g.fr, fun b u c e => hk b c _ (g.bh _ _ c e), g.cf, hj, fun i z e => ?_, g.di⟩
  obtain ⟨w, e1, h⟩ := g.sl i z e
  refine ⟨w, e1, h.keep (Same.refl F) (fun l u ho hv hl => hk l ?_ _ hl) fun _ _ _ q => q⟩
  obtain ⟨l', _, r1, _, r3⟩ := bor_at h ho
  rw [hv] at r1
  cases r1
  exact own_nc g r3
/-- the def's own view after its call of the lambda: its empty list and nothing else -/
theorem Good.part (g : Good G F δ σ H) (hB : G.B p = some (.lst [])) (f0 : G.F0 p = none) (cp : ¬ G.C p) : Good (G.part F H p) F [some (.own [])] [some (.ref p)] H := by
  have hp : H p = some (.lst []) := g.bh p _ cp hB
  have fp : F p = none := by
    cases q : F p with
    | none => rfl
    | some u =>
      have := g.fr p (by rw [q]; simp) f0
      rw [hB] at this
      cases this
  refine ⟨⟨g.g.js, g.g.jm, g.g.jn, fun q c => ?_⟩, rfl, Same.refl F, g.fh, fun q a b => absurd b a, fun q u c e => ?_, g.cf, g.jh, fun i z e => ?_, fun i j a b l _ _ e1 e2 _ _ => ?_⟩
  · show (if q = p then none else H q) ≠ none
    rw [if_neg (fun z => cp (by rw [← z]; exact c))]
    exact g.g.jn _ H g.jh q c
  · have e : (if q = p then none else H q) = some u := e
    split at e
    · cases e
    · exact e
  · match i, e with
    | 0, e =>
      cases e
      exact ⟨_, rfl, p, [], rfl, hp, .nil, fp, if_pos rfl⟩
    | i + 1, e => simp at e
  · match i, j, e1, e2 with
    | 0, 0, _, _ => rfl
    | i + 1, _, e1, _ => simp at e1
    | 0, j + 1, _, e2 => simp at e2
/-- and what it hands back, seen from the caller -/
theorem Good.leave (g : Good G F δ σ H) (hb : G.B p = none) (ne : ∀ (i : Nat) (z : DV) (l : Addr), δ[i]? = some (some z) → (z.isOwn || z.isBor) = true → σ[i]? = some (some (.ref l)) → l ≠ p) {k : Nat} {r : DV} (hr : r.arg = true)
    (g' : Good ((G.part F H p).up k) F' [some r] [some v] H') : Good (G.up k) F' (δ ++ [some r]) (σ ++ [some v]) H' := by
  have frP : ∀ q, F' q ≠ none → F q = none → (if q = p then none else H q) = none := g'.fr
  have bhP : ∀ q u, ¬ G.C q → q ≠ p → H q = some u → H' q = some u := fun q u c n e => g'.bh q u c (by show (if q = p then none else H q) = some u; rw [if_neg n]; exact e)
  have nb : ∀ q u, G.B q = some u → q ≠ p := fun q u e z => by rw [z, hb] at e; cases e
  have base : Good (G.up k) F' δ σ H' := by
    refine ⟨g.g.up k, g.len, g.f0.trans g'.f0, g'.fh, fun q a b => ?_, fun q u c e => bhP q u c (nb q u e) (g.bh q u c e), g'.cf, g'.jh, fun i z e => ?_, g.di⟩
    · show G.B q = none
      cases e : F q with
      | some u => exact g.fr q (by rw [e]; simp) b
      | none =>
        have h1 := frP q a e
        cases e2 : G.B q with
        | none => rfl
        | some u =>
          rw [if_neg (nb q u e2)] at h1
          by_cases c : G.C q
          · exact absurd h1 (g.g.jn _ H g.jh q c)
          · rw [g.bh q u c e2] at h1
            cases h1
    · obtain ⟨w, e1, h⟩ := g.sl i z e
      refine ⟨w, e1, ?_⟩
      rw [vok_up]
      refine h.keep g'.f0 (fun l u ho hv hl => ?_) fun l ho hv hl => ?_
      · refine bhP l u ?_ (ne i z l e ho (by rw [e1, hv])) hl
        obtain ⟨l', _, r1, _, r3⟩ := bor_at h ho
        rw [hv] at r1
        cases r1
        exact own_nc g r3
      · cases q : F' l with
        | none => rfl
        | some u =>
          have h1 := frP l (by rw [q]; simp) hl
          obtain ⟨l', _, r1, r2, _⟩ := own_at h ho
          rw [hv] at r1
          cases r1
          rw [if_neg (ne i z l e (by rw [ho]; rfl) (by rw [e1, hv])), r2] at h1
          cases h1
  refine base.push ?_ (fun z => ?_)
  · have t := Good.top (δ := []) (σ := []) g'
    cases r with
    | d _ => exact t
    | cask => exact t
    | raw _ => exact t
    | scr _ => exact t
    | _ => cases hr
  · cases r with
    | own _ => cases hr
    | odk _ => cases hr
    | olk _ _ => cases hr
    | _ => cases z
/-- what a lambda sees of the slots: nothing that may change -/
def dropO (δ : Env) : Env := δ.map fun x => match x with
  | some (.d y) => some (.d y)
  | some .cask => some .cask
  | some (.raw v) => some (.raw v)
  | some (.scr xs) => some (.scr xs)
  | _ => none
theorem drop_get {i : Nat} {x : DV} (h : (dropO δ)[i]? = some (some x)) : δ[i]? = some (some x) ∧ x.arg = true := by
  unfold dropO at h
  rw [List.getElem?_map] at h
  cases q : δ[i]? with
  | none => rw [q] at h; cases h
  | some y =>
    rw [q] at h
    cases y with
    | none => cases h
    | some z =>
      cases z with
      | d _ => cases h; exact ⟨rfl, rfl⟩
      | cask => cases h; exact ⟨rfl, rfl⟩
      | raw _ => cases h; exact ⟨rfl, rfl⟩
      | scr _ => cases h; exact ⟨rfl, rfl⟩
      | _ => cases h
theorem drop_len : (dropO δ).length = δ.length := by unfold dropO; simp
theorem Good.drop (hl : δ.length = σ.length) {A : Env} {A' : L2.St} (g : Good G F (δ ++ A) (σ ++ A') H) : Good (G.into F H) F (dropO δ) σ H := by
  refine ⟨⟨g.g.js, g.g.jm, g.g.jn, fun q c => g.g.jn _ H g.jh q c⟩, by rw [drop_len]; exact hl, Same.refl F, g.fh, fun q a b => absurd b a, fun q u _ e => e, g.cf, g.jh, fun i z e => ?_, fun i j a b l ha _ e1 _ _ _ => ?_⟩
  · obtain ⟨e1, e2⟩ := drop_get e
    have hi : i < δ.length := (List.getElem?_eq_some_iff.mp e1).1
    obtain ⟨w, e3, h⟩ := g.sl i z (by rw [List.getElem?_append_left hi]; exact e1)
    rw [List.getElem?_append_left (by omega)] at e3
    refine ⟨w, e3, ?_⟩
    cases z with
    | d _ => exact h
    | cask => exact h
    | raw _ => exact h
    | scr _ => exact h
    | _ => cases e2
  · obtain ⟨_, e2⟩ := drop_get e1
    cases a with
    | own _ => cases e2
    | odk _ => cases e2
    | olk _ _ => cases e2
    | _ => cases ha
end
/-! ## the lambda is made: nothing but its table changes -/
open LamX in
theorem lam_make3 {X : Cx} {pins : List (Addr × Obj)} {σ : L2.St} {H : Hp} {s : Shared} {T : List (Addr × Str)} {c P : Addr} {params : Arguments} {body : Expr} {scope : Scope} {pos : Pos} {E Q : Value → Shared → Prop} (I : Inv X pins σ H s) (TB : TabB X.base X.mg c P)
    (hcode : X.env.code = .ref c) (hm : (P, X.env.qual ++ "<lambda>") ∈ T) (hu : ∀ p ∈ T, p.1 = P → p.2 = X.env.qual ++ "<lambda>") (hT : Tabs T H) (hdef : defaultsOf params X.env = ([], []))
    (hfree : ∀ y ∈ scope.names, y.2 = .free → ∃ c, X.env.cells.lookup y.1 = some c)
    (next : ∀ (f c' : Addr) (pm ctv : Value) (H1 : Hp) (s' : Shared), Inv X pins σ H1 s' → (∀ b o, H b = some o → b ≠ P → H1 b = some o) → Tabs T H1 →
      s'.heap.get? f = some (kla_obj "<lambda>" (X.env.qual ++ "<lambda>") params body scope (cloFrom X.env.cells scope.names []) pm c' ctv) →
      H1 f = none → f ∉ frs X.stack → H1 c' = some (CodeO c' (X.env.qual ++ "<lambda>")) → Q (.ref f) s') :
    wpAny (model X.prog X.w) X.A (eval (.Lambda params body scope pos) X.env) Q E s := by
  obtain ⟨ps, hP, ht, ha⟩ := hT _ hm
  have atB := TB.bm.keeps I.bk
  have atP := I.hok P _ hP
  have mod := I.mod.glob.keeps I.bk
  have code := TB.code.keeps I.bk
  have off : ∀ f, s.heap.objs.size ≤ f → f ∉ frs X.stack := fun f hf z => by
    rcases List.mem_cons.mp (I.stkSub _ z) with e | e
    · have h1 := I.lt
      rw [← e] at h1
      exact absurd (Nat.lt_of_lt_of_le h1 hf) (Nat.lt_irrefl _)
    · exact I.nofs hf e
  refine kla_eval hdef ?_
  cases hc : codeAmong pos ps.toList with
  | some cv =>
    obtain ⟨c', rfl, hco⟩ := ha pos cv hc
    refine kla_makeFunctionHit (mg := X.mg) (c := c) (P := P) (ps := ps) (closure_ok hfree) I.ok.glob mod hcode code atP ht hc atB fun ctv h' tk hx hsz => ?_
    have J : Inv X pins σ H { s with heap := h'.push (kla_obj "<lambda>" (X.env.qual ++ "<lambda>") params body scope (cloFrom X.env.cells scope.names []) ((X.mg "__name__").getD .none) c' ctv), toks := tk } :=
      I.kept fun b o e => Heap.get?_push_of_some _ (hx b o e)
    exact next h'.objs.size c' _ ctv H _ J (fun _ _ e _ => e) hT (Heap.get?_push_size _ rfl) (I.hok.fresh hsz) (off _ hsz) hco
  | none =>
    refine kla_makeFunction (mg := X.mg) (c := c) (P := P) (ps := ps) (closure_ok hfree) I.ok.glob mod hcode code atP ht hc TB.gP atB fun c' ctv h' tk hx hge hlt hrec htb => ?_
    obtain ⟨c2, oc, vs, t, e2, hoc, hd, hv⟩ := hrec
    cases e2
    have hsz : s.heap.objs.size ≤ h'.objs.size := by omega
    have nC : H c' = none := I.hok.fresh hge
    have J := inv_table (t' := tk) (more := #[rawInt pos.line, rawInt pos.col, .ref c']) (h' := h'.push (kla_obj "<lambda>" (X.env.qual ++ "<lambda>") params body scope (cloFrom X.env.cells scope.names []) ((X.mg "__name__").getD .none) c' ctv)) I hP
      (fun b o hb e => Heap.get?_push_of_some _ (hx b o hb e)) (Heap.get?_push_of_some _ htb) hge
      ⟨oc, vs, t, Heap.get?_push_of_some _ hoc, hd, hv⟩
    obtain ⟨H1, hH1⟩ : ∃ H1, H1 = upd (upd H P (.tbl (ps ++ #[rawInt pos.line, rawInt pos.col, .ref c']))) c' (CodeO c' (X.env.qual ++ "<lambda>")) := ⟨_, rfl⟩
    rw [← hH1] at J
    have keep : ∀ b o, H b = some o → b ≠ P → H1 b = some o := fun b o e n => by
      rw [hH1, upd_ne (ne_of_none e nC), upd_ne n]; exact e
    have new : H1 c' = some (CodeO c' (X.env.qual ++ "<lambda>")) := by rw [hH1, upd_same]
    have nPc : P ≠ c' := ne_of_none hP nC
    have tab : H1 P = some (.tbl (ps ++ #[rawInt pos.line, rawInt pos.col, .ref c'])) := by rw [hH1, upd_ne nPc, upd_same]
    have stays : ∀ {c0 : Addr} {q : Str}, H c0 = some (CodeO c0 q) → H1 c0 = some (CodeO c0 q) := fun {c0 q} e =>
      keep _ _ e fun z => by rw [z, hP] at e; exact codeO_ne ps (Option.some.inj e).symm
    have eL : (ps ++ #[rawInt pos.line, rawInt pos.col, .ref c']).toList = ps.toList ++ [rawInt pos.line, rawInt pos.col, .ref c'] := by simp
    refine next h'.objs.size c' _ ctv H1 _ J keep (fun p hp => ?_) (Heap.get?_push_size _ rfl) ?_ (off _ hsz) new
    · by_cases hb : p.1 = P
      · have e3 := hu p hp hb
        refine ⟨_, by rw [hb]; exact tab, by rw [eL]; exact PySem.TriplesOk_snoc _ _ _ _ ht, fun p' cv hcv => ?_⟩
        rw [eL] at hcv
        rw [e3]
        rcases among_app _ ht hcv with z | z
        · obtain ⟨c0, e1, e2⟩ := ha p' cv z
          exact ⟨c0, e1, stays e2⟩
        · exact ⟨c', z, new⟩
      · obtain ⟨qs, a1, a2, a3⟩ := hT p hp
        refine ⟨qs, keep _ _ a1 hb, a2, fun p' cv hcv => ?_⟩
        obtain ⟨c0, e1, e2⟩ := a3 p' cv hcv
        exact ⟨c0, e1, stays e2⟩
    · have n1 : h'.objs.size ≠ c' := by omega
      have n2 : h'.objs.size ≠ P := fun z => absurd (Nat.lt_of_lt_of_le (Heap.lt_size atP) hsz) (by rw [z]; exact Nat.lt_irrefl _)
      rw [hH1, upd_ne n1, upd_ne n2]
      exact I.hok.fresh hsz
/-! ## the lambda's own call, its error told of the slots at the call -/
open LamX
section
variable {X : Cx} {pinsO : List (Addr × Obj)} {σo : L2.St} {Ho : Hp} {so : Shared}
theorem pe_actD {CXg : CXT} {Eg : XK} {Ng : List Str} {qg a : Str} {sg scope : Scope} {g f c' : Addr} {cdg pm ctv : Value} {params : Arguments} {body : Expr} {k i : Nat} {pn : List (Addr × Obj)} {xe : Value → Shared → Prop} {W : WX} {tb : XK → TE} {p1 p2 : Pos}
    (Io : Inv X pinsO σo Ho so) (gd : X.A.guards = some []) (L : LamS X.env.scope scope)
    (hf : so.heap.get? f = some (kla_obj "<lambda>" (X.env.qual ++ "<lambda>") params body scope (cloFrom X.env.cells scope.names []) pm c' ctv))
    (hfn : Ho f = none) (hfr : f ∉ frs X.stack) (hbind : bindArgs (kla_fn "<lambda>" (X.env.qual ++ "<lambda>") params body scope (cloFrom X.env.cells scope.names []) pm (.ref c') ctv) ⟨[], []⟩ = pure [])
    (tk : Takes ((cxOf CXg X.prog X.w X.K X.mg X.base Ng qg sg g cdg X.A X.stack so Ho Eg).tr pn xe) W)
    (hr : Room (k + 1) (X.A.deeper (PyProof.Rows.envOfC qg sg so.heap.objs.size g cdg)))
    (hbody : ∀ (A : Around) (outer : List PySem.Env) (s : Shared) (H : Hp) (E : XK), A.guards = some [] → Room k (A.deeper (lamEnv X scope s.heap.objs.size f c')) → PE (lamCx X A outer s H E scope f c') body (tb E))
    (hN : Ng[i]? = some a) (hv : Vis sg a) (hd : (a == ("__debug__" : Str)) = false := by decide) (hcd : (a == ("__classdict__" : Str)) = false := by decide) :
    PE ((cxOf CXg X.prog X.w X.K X.mg X.base Ng qg sg g cdg X.A X.stack so Ho Eg).tr pn xe) (.Call (.Name a p1) [] [] p2)
      (fun σz Hz Q => σz[i]? = some (some (.ref f)) ∧ Hz c' = some (CodeO c' (X.env.qual ++ "<lambda>")) ∧ tb (WE W σz) σo Hz Q) := by
  refine ⟨fun pinsZ sz σz Hz Q Iz hq => ?_⟩
  obtain ⟨hs, hc, ht⟩ := hq
  have look := (pe_var (pos := p1) (i := i) hN hv hd hcd).run pinsZ sz σz Hz (fun v H1 => v = .ref f ∧ H1 = Hz) Iz ⟨.ref f, hs, rfl, rfl⟩
  refine wpAny_Call_Name_kw (thn look fun u s1 z => ?_)
  obtain ⟨v, H1, J, rv, rfl, rfl⟩ := z
  obtain rfl : u = Value.ref f := rv
  have of1 := J.base.keep f _ hf hfn hfr (fun z => nomatch (show f ∈ ([] : List Addr) from z))
  refine callWith_F0 ⟨_, _, _, _, of1⟩ ?_
  have un : Un (frs X.stack) [] Ho H1 so.heap s1.heap := J.base
  obtain ⟨⟨oc, vs, t, hoc, hdc, hvc⟩, _, _⟩ := J.hok c' _ hc
  have rc : codeAny (model X.prog X.w) (X.A.deeper (PyProof.Rows.envOfC qg sg so.heap.objs.size g cdg)) (.call (.ref f) ⟨[], []⟩)
      (CR (L2.CX X.prog X.w) (PyProof.Rows.envOfC qg sg so.heap.objs.size g cdg :: X.stack) X.prog X.w H1 s1 Q (WE W σz)) s1 := by
    refine kla_callFunE hr.depth of1 rfl L.co L.gen rfl ⟨c', oc, vs, t, rfl, hoc, hdc, hvc⟩ ?_
    rw [hbind]
    refine wpAny_pure (wpAny_newFunctionEnv (fun y hy => (L.own y hy).2) (fun y hy => absurd hy (by simp)) (fun h1 hns hsb => ?_) L.kind)
    refine ⟨J.nolimit.fresh _ hsb, ?_⟩
    show codeAny _ _ (.expr body (lamEnv X scope s1.heap.objs.size f c')) _ _
    have kp : ∀ b o, s1.heap.get? b = some o → h1.get? b = some o := fun b o e =>
      hsb.extBut b o (Nat.ne_of_lt (Heap.lt_size e)) (Heap.get?_push_of_some _ e)
    have J2 := lam_start2 (E := WE W σz) (f := f) (c' := c') (tk := s1.toks + ([] : List (Str × Value)).length) Io L J.env0 hr.hd un hns kp
    have run := (hbody (X.A.deeper (PyProof.Rows.envOfC qg sg so.heap.objs.size g cdg)) _ s1 H1 (WE W σz) gd (hr.deeper _)).run [] _ _ H1 Q J2 ht
    refine kla_codeExpr (wpAny_mono run (fun v s' z => ?_) fun e s' z => z)
    obtain ⟨x, H', J', rx, q⟩ := z
    exact ⟨x, H', J'.os, J'.bare, J'.base, J'.hok, rx, q⟩
  refine wpAny_call (codeAny_mono rc fun r s' z => ?_)
  match r, z with
  | .error e, z => exact passAt tk σz pinsZ H1 s1 e s' J z
  | .ok (.ret u), z => exact J.after z
/-- what the def does with the lambda: tl is the lambda's reading -/
def GivesD (Pr : Program) (wo : World) (K : Frag) (mg : Str → Option Value) (base : Heap) (A : Around) (stack : List PySem.Env) (Ng : List Str) (x : Str) (sg : Scope) (g : Addr) (cdg : Value) (bg : List Stmt) (a q : Str) (TT : (XK → Hp → VK → Prop) → Hp → VK → Prop) : Prop :=
  ∀ (f c' : Addr) (s : Shared) (H : Hp) (Q : VK) (tl : XK → Hp → VK → Prop),
    (∀ (W : WX) (pn : List (Addr × Obj)) (xe : Value → Shared → Prop) (p1 p2 : Pos), Takes ((cxOf C8.CX0 Pr wo K mg base Ng x sg g cdg A stack s H C8.E0).tr pn xe) W →
      PE ((cxOf C8.CX0 Pr wo K mg base Ng x sg g cdg A stack s H C8.E0).tr pn xe) (.Call (.Name a p1) [] [] p2) (fun σz Hz R => σz[0]? = some (some (.ref f)) ∧ Hz c' = some (CodeO c' q) ∧ tl (WE W σz) Hz R)) →
    H c' = some (CodeO c' q) → TT tl H Q →
    ∃ t, PSs (cxOf C8.CX0 Pr wo K mg base Ng x sg g cdg A stack s H C8.E0).nox bg t ∧ t { nx := fun _ H' => Q .non H', rt := Q } (L2.start Ng [.ref f]) H
/-- x(lambda: body): the table at P is all that changes -/
def tLam3 (T : List (Addr × Str)) (P : Addr) (TT : (XK → Hp → VK → Prop) → Hp → VK → Prop) (t : XK → TE) : TE := fun σ H Q => Tabs T H ∧ ∀ H1, (∀ b o, H b = some o → b ≠ P → H1 b = some o) → Tabs T H1 → TT (fun E H' Q' => t E σ H' Q') H1 Q
theorem pe_lamD {T : List (Addr × Str)} {TT : (XK → Hp → VK → Prop) → Hp → VK → Prop} {x a : Str} {g c P : Addr} {k : Nat} {st : Stmt} {sg : Scope} {pg : Arguments} {bg : List Stmt} {dV kV doc pm cdv ct oc : Value} {an od : Option Addr} {osl : Array (Option Value)} {Ng : List Str}
    {params : Arguments} {body : Expr} {scope : Scope} {t : XK → TE} {p lpos pos : Pos} (gd : X.A.guards = some []) (hg : Gl X x) (hm : X.mg x = some (.ref g)) (hk : keepIn X.K (.ref g) = true)
    (lk : X.K.lookup g = some ⟨oc, od, .func (fnOf x x pg bg sg dV kV doc pm an cdv ct), osl⟩) (hcg : codeIn X.K cdv x = true) (hb : L2.Binds X.K (fnOf x x pg bg sg dV kV doc pm an cdv ct) [a] [])
    (Sg : FnScope Ng [a] sg) (hNg : Ng[0]? = some a) (hva : Vis sg a) (hG : GivesD X.prog X.w X.K X.mg X.base X.A X.stack Ng x sg g cdv bg a (X.env.qual ++ "<lambda>") TT)
    (TB : TabB X.base X.mg c P) (hcode : X.env.code = .ref c) (hmT : (P, X.env.qual ++ "<lambda>") ∈ T) (hu : ∀ p ∈ T, p.1 = P → p.2 = X.env.qual ++ "<lambda>") (hr : Room (k + 2) X.A)
    (L : LamS X.env.scope scope) (hdef : defaultsOf params X.env = ([], [])) (hbind : ∀ (q : Str) (cl : List (Str × Addr)) (pm cv ctv : Value), bindArgs (kla_fn "<lambda>" q params body scope cl pm cv ctv) ⟨[], []⟩ = pure [])
    (hbody : ∀ (A : Around) (outer : List PySem.Env) (s : Shared) (H : Hp) (E : XK) (f c' : Addr), A.guards = some [] → Room k (A.deeper (lamEnv X scope s.heap.objs.size f c')) → PE (lamCx X A outer s H E scope f c') body (t E))
    (hdb : (x == ("__debug__" : Str)) = false := by decide) (hd : (a == ("__debug__" : Str)) = false := by decide) (hcd : (a == ("__classdict__" : Str)) = false := by decide) :
    PE X (.Call (.Name x p) [.Lambda params body scope lpos] [] pos) (tLam3 T P TT t) := by
  refine ⟨fun pins s σ H Q I hq => ?_⟩
  obtain ⟨hT, hq⟩ := hq
  refine wpAny_Call_Name_kw (ld_glob I hg hm ?_ hdb)
  refine callWith_K (h₀ := X.base) I.ok.mod.kin hk ?_ (by rfl) (by rfl)
  show wpAny _ _ (spliced ((false, eval (.Lambda params body scope lpos) X.env) :: backTo pos (starEach [] X.env))) _ _ s
  refine Calls.spliced_cons (lam_make3 I TB hcode hmT hu hT hdef (L.has I.ok) fun f c' pm' ctv H1 s1 J eN T1 hf hfn hfr hco => ?_)
  refine Calls.spliced_nil ⟨J.kIn, ?_⟩
  have rc : codeAny (model X.prog X.w) X.A (.call (.ref g) ⟨[.ref f], []⟩) (CR C8.CX0 X.stack X.prog X.w H1 s1 Q C8.E0) s1 := by
    refine run_ofS (N := Ng) (ps := [a]) (us := [.ref f]) (vs := [.ref f]) lk hcg Sg hr J.env0 (hb s1 [.ref f] J.kIn rfl) (.cons rfl .nil) rfl fun hr2 => ?_
    have act := fun (W : WX) (pn : List (Addr × Obj)) (xe : Value → Shared → Prop) (p1 p2 : Pos) tk =>
      pe_actD (CXg := C8.CX0) (Eg := C8.E0) (pn := pn) (xe := xe) (W := W) (p1 := p1) (p2 := p2) (i := 0) J gd L hf hfn hfr (hbind _ _ _ _ _) tk hr2 (fun A outer s H E ga hr3 => hbody A outer s H E f c' ga hr3) hNg hva hd hcd
    obtain ⟨t', h1, h2⟩ := hG f c' s1 H1 Q (fun E H' Q' => t E σ H' Q') act hco (hq H1 eN T1)
    exact ⟨t', h1.nox, h2⟩
  refine wpAny_call (codeAny_mono rc fun r s2 z => ?_)
  match r, z with
  | .error e, z => exact (show False from z).elim
  | .ok (.ret u), z => exact J.after z
end
/-! ## told: the lambda's result, or what is made of its error -/
def E1 (K : Frag) (mg : Str → Option Value) (L : List Str) (tE : DExc → (DV → Prop) → Prop) (p : Addr) (Q : VK) : XK := fun cls d H' => ∃ (G : Gm) (F : Hp) (er : DExc) (R : DV → Prop), ExcAt K mg F H' er cls d ∧ er.cls ∈ L ∧ G.K = K ∧ G.n ≤ G.lim ∧ Good G F [some (.own [])] [some (.ref p)] H' ∧ tE er R ∧
  ∀ r, R r → r.arg = true → ∀ v F' H', Good G F' [some r] [some v] H' → Q v H'
def TTd (K : Frag) (mg : Str → Option Value) (L : List Str) (tE : DExc → (DV → Prop) → Prop) : (XK → Hp → VK → Prop) → Hp → VK → Prop := fun tl H Q => ∀ p, H p = none → ∀ (E' : XK) (Q' : VK), (∀ cls d H', E1 K mg L tE p Q cls d H' → E' cls d H') →
  (∀ v H3, (∀ p2, H3 p2 = none → Q (.ref p2) (upd H3 p2 (.tup [.str "result", v]))) → Q' v H3) → tl E' (upd H p (.lst [])) Q'
/-- what a promise of told is good for -/
def TPost (mg : Str → Option Value) (L : List Str) (tE : DExc → (DV → Prop) → Prop) (ms : Addr → Addr → Option Addr → MS) (ml : MS) : Prop := ∀ (er : DExc) (R : DV → Prop), tE er R → er.cls ∈ L → ∀ f a d, ms a (clsA mg er.cls) d ex0 { nx := fun δ2 => ml ex0 { nx := fun _ => R (.d .none), rt := R, bk := fun _ => False, ct := fun _ => False } (δ2.set 2 none), rt := R, bk := fun _ => False, ct := fun _ => False } [some (.raw (.ref f)), some (.own []), some (.exc a (clsA mg er.cls) d er)]
section
variable {K : Frag} {mg : Str → Option Value} {L : List Str} {sub : Str → Str → Bool} {xn : Str} {tE : DExc → (DV → Prop) → Prop} {ms : Addr → Addr → Option Addr → MS} {ml : MS}
theorem link0 {W : WC} {u : Nat} {G : Gm} {τ : Env} {ts : L2.St} : Link K mg (W0 W) u G τ ts ex0 := fun _ _ _ _ _ _ _ _ _ _ _ _ _ _ h => h
theorem told_read {f p : Addr} {Q : VK} (T : XEx K mg L sub xn) (hsub : ∀ c ∈ L, sub c xn = true) (post : TPost mg L tE ms ml) : ∀ cls d H', E1 K mg L tE p Q cls d H' →
    wAs K (.ref (clsA mg xn)) 2 (fun a cls d D σ H => ∃ C, cls = .ref C ∧ (∃ cn, cn ∈ L ∧ C = clsA mg cn) ∧ liftS K mg (W0 WF) 0 (ms a C d) D σ H) (fun _ _ _ _ => False) { nx := fun σ' H' => liftS K mg WF 0 ml { nx := fun _ H' => Q .non H', rt := Q } σ' H', rt := Q } cls d [some (.ref f), some (.ref p), none] H' := by
  rintro cls d H' ⟨G, F, er, R, hx, hL, hK, hn, g, hE, hR⟩
  obtain ⟨C, hm, rfl, hx'⟩ := hx
  have hC : C = clsA mg er.cls := (clsA_of hm).symm
  have hy := T.e.get hL
  rw [hsub _ hL] at hy
  refine ⟨true, by rw [hC]; exact hy, fun _ a na => ⟨C, rfl, ⟨_, hL, hC⟩, ?_⟩, fun z => by cases z⟩
  have g0 : Good G F ([] : Env) ([] : L2.St) H' := Good.cut (A := []) (A' := []) (B := [some (.own [])]) (B' := [some (.ref p)]) rfl g
  have g1 := g0.push (v := .ref f) (dv := .raw (.ref f)) rfl (fun z => by cases z)
  have g2 : Good G F [some (.raw (.ref f)), some (.own [])] [some (.ref f), some (.ref p)] H' := g1.push (v := .ref p) (dv := .own []) (Good.top (δ := []) (σ := []) g) (fun _ i x hx e => by
    match i, e with
    | 0, e => cases e; cases hx
    | i + 1, e => simp at e)
  have hv : VOk G F H' (.ref a) (.exc a C d er) := by
    obtain ⟨cn, arg⟩ := er
    refine ⟨rfl, ?_⟩
    cases arg with
    | none => exact hx'
    | some q =>
      obtain ⟨fl, y⟩ := q
      obtain ⟨dd, w, e1, e2, e3⟩ := hx'
      exact ⟨dd, w, e1, e2, by show At G.K F w y; rw [hK]; exact e3⟩
  have g3 : Good G F [some (.raw (.ref f)), some (.own []), some (.exc a C d er)] [some (.ref f), some (.ref p), some (.ref a)] H' := g2.push (v := .ref a) (dv := .exc a C d er) hv (fun z => by cases z)
  have hp := post er R hE hL f a d
  rw [← hC] at hp
  have z0 : ∀ b : Nat, b ≤ 0 → b = 0 := fun b h => Nat.le_zero.mp h
  refine ⟨ex0, G, F, [some (.raw (.ref f)), some (.own []), some (.exc a C d er)], [], [], { nx := fun δ2 => ml ex0 { nx := fun _ => R (.d .none), rt := R, bk := fun _ => False, ct := fun _ => False } (δ2.set 2 none), rt := R, bk := fun _ => False, ct := fun _ => False }, ⟨hK, rfl, rfl, by simpa using g3, link0, trivial, hn⟩, ?_, ⟨fun δ2 h b σ2 F2 H2 hb hl nb g5 => ?_, fun _ z => z.elim, fun _ z => z.elim, fun r hr ha b v F2 H2 hb g5 => ?_⟩, hp⟩
  · intro i x e
    match i, e with
    | 0, e => cases e; rfl
    | 1, e => cases e; rfl
    | 2, e => cases e; rfl
    | i + 3, e => simp at e
  · have hb := z0 b hb
    subst hb
    have g6 : Good G F2 (δ2.set 2 none) (σ2.set 2 none) H2 := by
      have h1 : Good (G.up 0) F2 (δ2.set 2 none) (σ2.set 2 none) H2 := by simpa using Good.unset (B := []) (B' := []) 2 hl g5
      exact h1
    refine ⟨ex0, G, F2, δ2.set 2 none, [], [], { nx := fun _ => R (.d .none), rt := R, bk := fun _ => False, ct := fun _ => False }, ⟨hK, by simp [hl], rfl, by simpa using g6, link0 (W := WF), trivial, hn⟩, ?_, ⟨fun δ3 h3 b σ3 F3 H3 hb hl3 nb3 g7 => ?_, fun _ z => z.elim, fun _ z => z.elim, fun r hr ha b v F3 H3 hb g7 => ?_⟩, h⟩
    · have nb' : NoBor δ2 := nb_left nb
      rw [List.append_nil]
      intro i x e
      rcases get_set e with ⟨_, q, _⟩ | ⟨_, q⟩
      · cases q
      · exact nb' i x q
    · have hb := z0 b hb
      subst hb
      refine hR _ h3 rfl .non F3 H3 ?_
      exact Good.pushD (δ := []) (σ := []) (Good.cut (A := []) (A' := []) (B := δ3 ++ []) (B' := σ3 ++ []) g7.len g7) .non
    · have hb := z0 b hb
      subst hb
      exact hR r hr ha v F3 H3 g7
  · have hb := z0 b hb
    subst hb
    exact hR r hr ha v F2 H2 g5
end
/-- the walk of told: its empty list, its try, its last return -/
theorem told_walk {Y : Cx} {L : List Str} {sub : Str → Str → Bool} {xn n q : Str} {tE : DExc → (DV → Prop) → Prop} {ms : Addr → Addr → Option Addr → MS} {ml : MS} {st1 last b0 : Stmt} {body suite : List Stmt} {np pos pos' : Pos} {call : Expr} {f c' : Addr} {tl : XK → Hp → VK → Prop} {Q : VK} {H : Hp}
    (T : XEx Y.K Y.mg L sub xn) (hsub : ∀ c ∈ L, sub c xn = true) (post : TPost Y.mg L tE ms ml) (hs : Y.stack = Y.env :: Y.outer) (hf : Y.env.frame = some Y.env.locals) (hN : Y.N.Nodup) (hi : Y.N[2]? = some n) (hln : Y.env.kindOf n = some .local) (hg : Gl Y xn) (hxd : (xn == ("__debug__" : Str)) = false)
    (tk : Takes Y (fun _ _ _ _ => False)) (cu : CtxU Y) (h1 : PS Y st1 (tAsg (tLst tNil) (gName 1)))
    (act : ∀ (W : WX) (pn : List (Addr × Obj)) (xe : Value → Shared → Prop), Takes (Y.tr pn xe) W → PE (Y.tr pn xe) call (fun σz Hz R => σz[0]? = some (some (.ref f)) ∧ Hz c' = some (LamX.CodeO c' q) ∧ tl (WE W σz) Hz R))
    (h2 : ∀ (pn : List (Addr × Obj)) (xe : Value → Shared → Prop) (t : TE), PE (Y.tr pn xe) call t → PSs (Y.tr pn xe) body (tRet (tTup (tCons (tC (.str "result")) (tCons t tNil)))))
    (hsu : ∀ (a : Addr) (oe : Obj) (C : Addr) (d : Option Addr) (pn : List (Addr × Obj)), (∃ cn, cn ∈ L ∧ C = clsA Y.mg cn) → Zc (.ref C) d oe → (∃ vs, oe.data = .fields vs) → CtxU (Y.suite a ((a, oe) :: pn)) → DSs (Y.suite a ((a, oe) :: pn)) (W0 WF) (b0 :: suite) (ms a C d) 0)
    (hlast : DS Y WF last ml 0) (hco : H c' = some (LamX.CodeO c' q)) (h : TTd Y.K Y.mg L tE tl H Q) :
    ∃ t, PSs Y [st1, .Try body [.ExceptHandler (some (.Name xn np)) (some n) (b0 :: suite) pos'] [] [] pos, last] t ∧ t { nx := fun _ H' => Q .non H', rt := Q } [some (.ref f), none, none] H := by
  refine ⟨_, pss_cons h1 (pss_cons (ps_try_as (i := 2) (c := .ref (clsA Y.mg xn)) (Wout := fun _ _ _ _ => False)
    (tb := fun W' => tRet (tTup (tCons (tC (.str "result")) (tCons (fun σz Hz R => σz[0]? = some (some (.ref f)) ∧ Hz c' = some (LamX.CodeO c' q) ∧ tl (WE W' σz) Hz R) tNil))))
    (ts := fun a cls d D σ H => ∃ C, cls = .ref C ∧ (∃ cn, cn ∈ L ∧ C = clsA Y.mg cn) ∧ liftS Y.K Y.mg (W0 WF) 0 (ms a C d) D σ H) hs hf hN hi hln ⟨hg, hxd, .inl T.m⟩ tk (fun W pn xe tk _ => h2 pn xe _ (act W pn xe tk)) ?_) (pss_one hlast.ps)), ?_⟩
  · intro a oe cls d pn hz hf
    refine ⟨fun pins s σ H D I q => ?_⟩
    obtain ⟨C, rfl, hC, q⟩ := q
    exact (hsu a oe C d pn hC hz hf ⟨cu.gd, cu.un⟩).pss.run pins s σ H D I q
  · refine ⟨Nat.zero_le _, fun p hp => ?_⟩
    have hco' : upd H p (.lst []) c' = some (LamX.CodeO c' q) := by rw [upd_ne (ne_of_none hco hp)]; exact hco
    refine ⟨rfl, hco', h p hp _ _ (fun cls d H' e => ?_) fun v H3 k => ⟨(by decide : 2 ≤ sizeLine), fun p2 hp2 => k p2 hp2⟩⟩
    exact told_read T hsub post cls d H' e
/-! ## x(lambda: e) as data -/
open LamX
/-- a def of the module that makes data of a lambda's end -/
structure DTold (P : Program) (w : World) (K : Frag) (mg : Str → Option Value) (base : Heap) (L : List Str) (x : Str) (tE : DExc → (DV → Prop) → Prop) : Prop where
  ex : ∃ (g : Addr) (oc : Value) (od an : Option Addr) (pg : Arguments) (bg : List Stmt) (sg : Scope) (dV kV doc pm cdv ct : Value) (osl : Array (Option Value)) (Ng : List Str) (a : Str),
    mg x = some (.ref g) ∧ keepIn K (.ref g) = true ∧ K.lookup g = some ⟨oc, od, .func (fnOf x x pg bg sg dV kV doc pm an cdv ct), osl⟩ ∧ codeIn K cdv x = true ∧ L2.Binds K (fnOf x x pg bg sg dV kV doc pm an cdv ct) [a] [] ∧
    FnScope Ng [a] sg ∧ Ng[0]? = some a ∧ Vis sg a ∧ (a == ("__debug__" : Str)) = false ∧ (a == ("__classdict__" : Str)) = false ∧
    ∀ (A : Around) (stack : List PySem.Env) (q : Str), A.guards = some [] → Room 2 A → GivesD P w K mg base A stack Ng x sg g cdv bg a q (TTd K mg L tE)
/-- what the draws' things know of the tables -/
structure CkTab (ck : CKT) (P : Addr) (T : List (Addr × Str)) : Prop where
  tabs : ∀ C cv J lim n H, ck C cv J lim → J n H → Tabs T H
  mv : ∀ C cv J lim n H H1, ck C cv J lim → J n H → (∀ b o, H b = some o → b ≠ P → H1 b = some o) → Tabs T H1 → J n H1
  inC : ∀ C cv J lim, ck C cv J lim → C P
def mTold (L : List Str) (tE : DExc → (DV → Prop) → Prop) (me : ME) : ME := fun _ δ R => me (fun e _ => e.cls ∈ L ∧ tE e R) (dropO δ) fun x => match x.fix with
  | .d d => R (.d (.tuple [.str "result", d]))
  | _ => False
section
variable {X : Cx} {W : WC} {L : List Str} {x : Str} {tE : DExc → (DV → Prop) → Prop} {P c : Addr} {T : List (Addr × Str)} {params : Arguments} {body : Expr} {scope : Scope} {p lpos pos : Pos} {me : ME} {j k u : Nat}
theorem told_lift (CT : CkTab W.ck P T) (σ : L2.St) (H : Hp) (Q : VK) (q : liftE X.K X.mg W u (mTold L tE me) σ H Q) :
    tLam3 T P (TTd X.K X.mg L tE) (fun E σ H Q => liftE X.K X.mg ⟨fun cls d _ H => E cls d H, W.ck⟩ u me σ H Q) σ H Q := by
  obtain ⟨ex, G, F, δ, τ, ts, τ1, ts1, R, nw, m, kk⟩ := q
  refine ⟨CT.tabs _ _ _ _ _ _ nw.ck.1 nw.good.jh, fun H1 keep T1 p hp E' Q' hE hQ => ?_⟩
  have hCP := CT.inC _ _ _ _ nw.ck.1
  have g1 : Good G F (δ ++ τ ++ τ1) (σ ++ ts ++ ts1) H1 := nw.good.outer (fun q n o e => keep q o e fun z => n (by rw [z]; exact hCP)) (CT.mv _ _ _ _ _ _ _ nw.ck.1 nw.good.jh keep T1)
  have hbp := g1.nbp hp
  have hcp := g1.ncp hp
  have fp : F p = none := g1.fresh hp
  have nl : ∀ (i : Nat) (z : DV) (l : Addr), (δ ++ τ ++ τ1)[i]? = some (some z) → (z.isOwn || z.isBor) = true → (σ ++ ts ++ ts1)[i]? = some (some (.ref l)) → l ≠ p := fun i z l e ho e2 q => by
    obtain ⟨w, e1, h⟩ := g1.sl i z e
    obtain ⟨l', o, r1, r2, _⟩ := bor_at h ho
    rw [e1, r1] at e2
    cases e2
    rw [q, hp] at r2
    cases r2
  obtain ⟨H2, hH2⟩ : ∃ H2, H2 = upd H1 p (.lst []) := ⟨_, rfl⟩
  rw [← hH2]
  have g2 : Good G F (δ ++ τ ++ τ1) (σ ++ ts ++ ts1) H2 := by rw [hH2]; exact g1.alloc hp
  have g3 : Good (G.into F H2) F (dropO δ) σ H2 := Good.drop (A := τ ++ τ1) (A' := ts ++ ts1) nw.l1 (by simpa only [List.append_assoc] using g2)
  refine ⟨fun e _ => e.cls ∈ L ∧ tE e R, G.into F H2, F, dropO δ, [], [], [], [], _, ⟨nw.k, g3.len, rfl, by simpa using g3, fun b F' δ' σ' H' τ1' ts1' er cls d hb hl g' hx h => ?_, nw.ck⟩, m, fun r hr v F' H' g' => ?_⟩
  · refine hE cls d H' ?_
    have g4 : Good ((G.into F H2).up b) F' ([] : Env) ([] : L2.St) H' := Good.cut (A := []) (A' := []) (B := δ' ++ [] ++ τ1') (B' := σ' ++ [] ++ ts1') g'.len g'
    have ob : Good (G.up b) F' (δ ++ τ ++ τ1) (σ ++ ts ++ ts1) H' := g2.back g4
    have gp := g4.part (p := p) (by rw [hH2]; exact upd_same) fp hcp
    refine ⟨((G.into F H2).up b).part F' H' p, F', er, R, hx, h.1, nw.k, by have := nw.ck.2; show G.n + b ≤ G.lim; omega, gp, h.2, fun r hr ha v F2 H3 g5 => kk r hr v F2 H3 ?_⟩
    have g6 : Good ((G.up b).up 0) F2 (δ ++ τ ++ τ1 ++ [some r]) (σ ++ ts ++ ts1 ++ [some v]) H3 := ob.leave (p := p) hbp nl ha (k := 0) g5
    exact Good.mono (G := G) (a := b) g6 hb
  · refine hQ v H' fun p2 hp2 => ?_
    obtain ⟨F2, _, g4⟩ := Good.fixLast (G := (G.into F H2).up u) (δ := dropO δ) (σ := σ) (by simpa using g')
    split at hr
    · rename_i d hd
      rw [hd] at g4
      have hat : At G.K F2 v d := Good.top (δ := []) (σ := []) g4
      have g5 := g4.newT (p := p2) (vs := [.str "result", v]) (ds := [.str "result", d]) hp2 (.cons (.str _) (.cons hat .nil))
      exact kk _ hr _ _ _ (g2.ret (u := u) (δ₁ := []) (σ₁ := []) rfl g5.last)
    · exact hr.elim
theorem de_told (c0 : Ctx X W j) (hkj : k + 2 ≤ j) (h4 : 4 ≤ j) (CT : CkTab W.ck P T) (TD : DTold X.prog X.w X.K X.mg X.base L x tE) (hg : Gl X x) (TB : TabB X.base X.mg c P) (hcode : X.env.code = .ref c)
    (hmT : (P, X.env.qual ++ "<lambda>") ∈ T) (hu : ∀ p ∈ T, p.1 = P → p.2 = X.env.qual ++ "<lambda>") (Ls : LamS X.env.scope scope) (hdef : defaultsOf params X.env = ([], []))
    (hbind : ∀ (q : Str) (cl : List (Str × Addr)) (pm cv ctv : Value), bindArgs (kla_fn "<lambda>" q params body scope cl pm cv ctv) ⟨[], []⟩ = pure [])
    (hbody : ∀ (A : Around) (outer : List PySem.Env) (s : Shared) (H : Hp) (E : XK) (f c' : Addr), Ctx (lamCx X A outer s H E scope f c') ⟨fun cls d _ H => E cls d H, W.ck⟩ k → DE (lamCx X A outer s H E scope f c') ⟨fun cls d _ H => E cls d H, W.ck⟩ body me u)
    (hdb : (x == ("__debug__" : Str)) = false := by decide) :
    DE X W (.Call (.Name x p) [.Lambda params body scope lpos] [] pos) (mTold L tE me) u := by
  obtain ⟨g, oc, od, an, pg, bg, sg, dV, kV, doc, pm, cdv, ct, osl, Ng, a, q1, q2, q3, q4, q5, q6, q7, q8, q9, q10, gives⟩ := TD.ex
  have hG := gives X.A X.stack (X.env.qual ++ "<lambda>") c0.gd (c0.hr.mono (by omega))
  refine ⟨PE.imp (pe_lamD (k := k) (st := .Pass pos) (t := fun E σ H Q => liftE X.K X.mg ⟨fun cls d _ H => E cls d H, W.ck⟩ u me σ H Q) c0.gd hg q1 q2 q3 q4 q5 q6 q7 q8 hG TB hcode hmT hu (c0.hr.mono hkj) Ls hdef hbind (fun A outer s H E f c' gd hr => ?_) hdb q9 q10) fun σ H Q q => told_lift CT σ H Q q⟩
  exact (hbody A outer s H E f c' ⟨gd, hr, takes_of rfl rfl rfl rfl⟩).pe
end
section
variable {δ : Env} {x : PyData} {xs : List PyData} {v : V}
theorem dr_nil : dropO [] = [] := rfl
theorem dr_n : dropO (none :: δ) = none :: dropO δ := rfl
theorem dr_d : dropO (some (.d x) :: δ) = some (.d x) :: dropO δ := rfl
theorem dr_c : dropO (some .cask :: δ) = some .cask :: dropO δ := rfl
theorem dr_o : dropO (some (.own xs) :: δ) = none :: dropO δ := rfl
theorem dr_b : dropO (some (.bor xs) :: δ) = none :: dropO δ := rfl
theorem dr_r : dropO (some (.raw v) :: δ) = some (.raw v) :: dropO δ := rfl
end
end DL

namespace DL
open PySem PySem.Spec L2 PySem.W LamX
section
variable {P : Program} {w : World} {K : Frag} {mg : Str → Option Value} {base : Heap}
/-- the rule of a def, by its body, where its code object is asked for -/
theorem fnG_ofC {x qual : Str} {st : Stmt} {f : Addr} {fd : FuncData} {N ps : List Str} {k : Nat} {sp : Sp} {cv : Value} (T : L2.Fun K x qual st f fd) (hcv : fd.code = cv) (S : FnScope N ps (L2.defScope st)) (len : ∀ vs H Q E, sp vs H Q E → vs.length = ps.length)
    (body : ∀ (A : Around) (outer : List PySem.Env) (s : Shared) (H : Hp) (vs : List V) (Q : VK) (E : XK), A.guards = some [] → Room k (A.deeper (PyProof.Rows.envOfC qual (L2.defScope st) s.heap.objs.size f cv)) → sp vs H Q E →
      ∃ t, PSs (cxOf (L2.CX P w) P w K mg base N qual (L2.defScope st) f cv A outer s H E) (L2.defBody st) t ∧ t { nx := fun _ H' => Q .non H', rt := Q } (start N vs) H) : FnG P w K mg base (k + 1) f fd ps sp := by
  obtain ⟨oc, od, kV, doc, pm, an, cdv, ct, osl, rfl, lk, hcd⟩ := T.ex
  obtain rfl : cdv = cv := hcv
  refine ⟨len, fun A outer s H args us vs Q E hg hr e0 hb r hsp => ?_⟩
  have hlen := len _ _ _ _ hsp
  have kin : K.In s.heap := e0.mod.kin.keeps fun b o e => (e0.bs b o e).1
  have nol : s.heap.NoLimit := e0.mod.nolimit.keeps fun b o e => (e0.bs b o e).1
  have kinds : ∀ y ∈ ps.zip us, (L2.defScope st).names.lookup y.1 = some .local ∨ ((L2.defScope st).names.lookup y.1 = some .cell ∧ ((cellsFrom (s.heap.objs.size + 1) (L2.defScope st).names []).lookup y.1).isSome = true) := by
    rintro ⟨n, v⟩ hy
    rcases S.par n (List.of_mem_zip hy).1 with q | q
    · exact .inl q
    · exact .inr ⟨q, PySem.W.cellsFrom_some _ _ _ (.inl q)⟩
  refine codeAny_call_function hr.depth (kin _ _ lk) rfl S.co S.gen rfl (PySem.W.codeRec_of kin hcd) (hb _ _ _ _ ?_)
  refine wpAny_newFunctionEnv_cells S.kind kinds fun env he s1 x => ?_
  subst he
  refine ⟨nol.keeps x.toInCall.keep, codeAny_func ?_⟩
  obtain ⟨t, ht, hq⟩ := body A outer s H vs Q E hg (hr.deeper _) hsp
  have I := inv_start (CX := L2.CX P w) (E := E) (cd := cdv) S hr.hd e0 hlen r x
  refine wpAny_mono (ht.run [] s1 (start N vs) H _ I hq) (fun fl s' hs => ?_) fun e s' hs => hs
  cases fl with
  | ret u =>
    obtain ⟨v, σ', H', J, rv, q⟩ := hs
    exact ⟨v, H', J.os, J.bare, J.base, J.hok, rv, q⟩
  | next =>
    obtain ⟨σ', H', J, q⟩ := hs
    exact ⟨V.non, H', J.os, J.bare, J.base, J.hok, rfl, q⟩
  | brk =>
    obtain ⟨_, _, _, q⟩ := hs
    exact False.elim q
  | cont =>
    obtain ⟨_, _, _, q⟩ := hs
    exact False.elim q
end
/-! ## the law's own call where its lambdas' code objects come into a table -/
abbrev noTab : Obj := { cls := .none, data := .fields #[] }
section
variable {P : Program} {w : World} {K : Frag} {mg mb : Str → Option Value} {k : Nat} {fa a c T : Addr} {fd : FuncData} {x : Str} {sp : Sp} {s₁ : Shared} {vs : List Value} {ns : List Int}
theorem law_overT {H : Hp} (kin : K.In s₁.heap) (hns : s₁.heap.Ns mainGlobals mg) (hb : s₁.heap.Ns builtinsNs mb) (hbb : ∀ y : Str, y ≠ "__name__" → mb y = bootBuiltins y) (hlim : s₁.heap.NoLimit) (hg : s₁.gens = #[])
    (tabT : s₁.heap.get? T = some noTab) (noT : K.lookup T = none) (code : CodeHd s₁.heap c T)
    (hbm : ∃ (bm : Addr) (ob : Obj), mg "__builtins__" = some (.ref bm) ∧ bm ≠ builtinsNs ∧ s₁.heap.get? bm = some ob ∧ ob.cls = .type "module" ∧ ob.dict = some builtinsNs ∧ ob.data = .plain)
    (ha : s₁.heap.get? a = some { cls := .type "list", data := .seq vs.toArray }) (hr : Room k PySem.callerA)
    (F : ∀ base : Heap, K.In base → base.Ns mainGlobals mg → TabB base mg c T → FnG P w K mg base k fa fd [x] sp) (hbind : ∀ (s : Shared) (u : Value), BindsTo s fd ⟨[u], []⟩ [(x, u)])
    (hHT : H T = some (.tbl #[])) (only : ∀ b, b ≠ T → H b = none ∨ ∃ o xs, H b = some (.frz o (.lst xs))) (hok : HOk P w H s₁.heap) (at1 : ∀ b, H b ≠ none → b = a ∨ b = T) (noK : H a ≠ none → K.lookup a = none)
    (hsp : sp [.ref a] H (fun v _ => v = .bl true) fun _ _ _ => False) :
    codeAny (model P w) PySem.callerA (.call (.ref fa) ⟨[.ref a], []⟩) (fun r s' => r = .ok (.ret (.bool true)) ∧ OldK s₁.heap s'.heap ∧ s'.os = s₁.os ∧ PyProof.Rows.AllBare s'.gens) s₁ := by
  have hid : ∀ {b : Addr} {o : Obj}, s₁.heap.get? b = some o → (∀ us n, o.data ≠ .seq us n) → o.data ≠ .fields #[] → H b = none := fun {b o} e d1 d2 => by
    cases q : H b with
    | none => rfl
    | some u =>
      rcases at1 b (by rw [q]; simp) with z | z
      · rw [z, ha] at e; cases e; exact absurd rfl (d1 _ _)
      · rw [z, tabT] at e; cases e; exact absurd rfl d2
  have hidD : ∀ {b : Addr} {o : Obj} {es : Array DictEntry} {ep : Nat}, s₁.heap.get? b = some o → o.data = .dict es ep → H b = none := fun {b o es ep} e d =>
    hid e (fun us n z => by rw [d] at z; cases z) fun z => by rw [d] at z; cases z
  have inB : ∀ {b : Addr} {m : Str → Option Value}, s₁.heap.Ns b m → (hidT s₁.heap H).Ns b m := by
    rintro b m ⟨o, es, ep, e, d, r⟩
    exact ⟨o, es, ep, hidT_get e (hidD e d), d, r⟩
  have kinB : K.In (hidT s₁.heap H) := by
    intro b o e
    refine hidT_get (kin b o e) ?_
    cases q : H b with
    | none => rfl
    | some u =>
      rcases at1 b (by rw [q]; simp) with z | z
      · rw [z] at e q
        rw [noK (by rw [q]; simp)] at e
        cases e
      · rw [z, noT] at e
        cases e
  have md : Mod K mg (hidT s₁.heap H) := by
    obtain ⟨mc, l1, l2⟩ := hlim
    exact ⟨kinB, inB hns, ⟨mb, inB hb, hbb⟩, ⟨mc, inB l1, l2⟩⟩
  have gT : mainGlobals ≠ T := fun z => by
    obtain ⟨o, es, ep, e, hd, _⟩ := hns
    rw [z, tabT] at e
    cases e
    cases hd
  have TB : TabB (hidT s₁.heap H) mg c T := by
    refine ⟨?_, ?_, gT⟩
    · obtain ⟨o, us, file, tf, flags, tg, inF, text, tt, e1, r1, r2, r3, rest⟩ := code
      refine ⟨o, us, file, tf, flags, tg, inF, text, tt, hidT_get e1 (hid e1 (fun us n z => ?_) fun z => ?_), r1, r2, r3, rest⟩
      · rw [r2] at z; cases z
      · rw [r2] at z
        cases z
        simp at r3
    · obtain ⟨bm, ob, b1, b2, b3, b4, b5, b6⟩ := hbm
      have nG : bm ≠ mainGlobals := fun q => by
        obtain ⟨o, es, ep, e, hd, _⟩ := hns
        rw [q, e] at b3
        cases b3
        rw [hd] at b6
        cases b6
      have nT : bm ≠ T := fun q => by
        rw [q, tabT] at b3
        cases b3
        cases b6
      exact ⟨bm, ob, b1, b2, nG, nT, hidT_get b3 (hid b3 (fun us n z => by rw [b6] at z; cases z) fun z => by rw [b6] at z; cases z), b4, b5, b6⟩
  have e0 : Env0 P w K mg (hidT s₁.heap H) PySem.callerA [] s₁ H :=
    ⟨rfl, md, fun b o e => of_hidT e, by rw [hidT_size]; exact Nat.le_refl _, trivial, fun b hb => (List.not_mem_nil (show b ∈ ([] : List Addr) from hb)).elim, hok, .of_eq hg⟩
  have run := (F _ kinB (inB hns) TB).run PySem.callerA [] s₁ H ⟨[.ref a], []⟩ [.ref a] [.ref a] (fun v _ => v = .bl true) (fun _ _ _ => False) rfl hr e0 (hbind s₁ (.ref a)) (.cons rfl .nil) hsp
  refine codeAny_mono run fun r s' h => ?_
  match r, h with
  | .error e, h =>
    obtain ⟨_, _, _, _, _, _, _, _, _, _, _, _, z⟩ := h
    exact z.elim
  | .ok (.ret u), h =>
    obtain ⟨v, H', os, bare, un, hok', rv, q⟩ := h
    obtain rfl : v = .bl true := q
    obtain rfl : u = Value.bool true := rv
    have stay : ∀ b o, b ≠ T → s₁.heap.get? b = some o → s'.heap.get? b = some o := fun b o n e => by
      cases q : H b with
      | none => exact un.keep b o e q (fun z => (List.not_mem_nil (show b ∈ ([] : List Addr) from z)).elim) (fun z => (List.not_mem_nil z).elim)
      | some u =>
        rcases only b n with z | ⟨ob, xs, z⟩
        · rw [q] at z
          cases z
        · obtain ⟨e1, _⟩ := hok b _ z
          obtain ⟨e2, _⟩ := hok' b _ (un.frzs b ob _ z)
          rw [e] at e1
          cases e1
          exact e2
    obtain ⟨more, zt⟩ := un.tbls T #[] hHT
    have grown := hok' T _ zt
    rw [Array.empty_append] at grown
    refine ⟨rfl, ⟨fun b o e => ?_, fun b o e => ?_⟩, os, bare⟩
    · by_cases hb : b = T
      · subst hb
        rw [tabT] at e
        cases e
        exact .inr (.inl ⟨(code.tab tabT).isCodeTable, rfl, #[], more, rfl, by rw [Array.empty_append]; exact grown⟩)
      · exact .inl (stay b o hb e)
    · by_cases hb : b = T
      · subst hb
        exact ⟨_, grown⟩
      · exact ⟨o, stay b o hb e⟩
theorem law_callT (kin : K.In s₁.heap) (hns : s₁.heap.Ns mainGlobals mg) (hb : s₁.heap.Ns builtinsNs mb) (hbb : ∀ y : Str, y ≠ "__name__" → mb y = bootBuiltins y) (hlim : s₁.heap.NoLimit) (hg : s₁.gens = #[])
    (tabT : s₁.heap.get? T = some noTab) (noT : K.lookup T = none) (code : CodeHd s₁.heap c T)
    (hbm : ∃ (bm : Addr) (ob : Obj), mg "__builtins__" = some (.ref bm) ∧ bm ≠ builtinsNs ∧ s₁.heap.get? bm = some ob ∧ ob.cls = .type "module" ∧ ob.dict = some builtinsNs ∧ ob.data = .plain)
    (ha : s₁.heap.get? a = some { cls := .type "list", data := .seq vs.toArray }) (hi : PyProof.Rows.IntsAre vs ns) (hl : ns.length ≤ sizeLine) (hr : Room k PySem.callerA)
    (F : ∀ base : Heap, K.In base → base.Ns mainGlobals mg → TabB base mg c T → FnG P w K mg base k fa fd [x] sp) (hbind : ∀ (s : Shared) (u : Value), BindsTo s fd ⟨[u], []⟩ [(x, u)])
    (hsp : ∀ H : Hp, H T = some (.tbl #[]) → SqL K H a (ns.map V.int) → sp [.ref a] H (fun v _ => v = .bl true) fun _ _ _ => False) :
    codeAny (model P w) PySem.callerA (.call (.ref fa) ⟨[.ref a], []⟩) (fun r s' => r = .ok (.ret (.bool true)) ∧ OldK s₁.heap s'.heap ∧ s'.os = s₁.os ∧ PyProof.Rows.AllBare s'.gens) s₁ := by
  have rv := L2.vals_ints hi
  have hlen := hi.length
  have aT : a ≠ T := fun z => by
    rw [z, tabT] at ha
    have z' : Data.fields #[] = Data.seq vs.toArray _ := congrArg Obj.data (Option.some.inj ha)
    cases z'
  cases hk : K.lookup a with
  | some o =>
    have e := kin a o hk
    rw [ha] at e
    cases e
    obtain ⟨H, hH⟩ : ∃ H : Hp, H = fun b => if b = T then some (.tbl #[]) else none := ⟨_, rfl⟩
    have hT : H T = some (.tbl #[]) := by rw [hH]; exact if_pos rfl
    have hn : ∀ b, b ≠ T → H b = none := fun b q => by rw [hH]; exact if_neg q
    refine law_overT kin hns hb hbb hlim hg tabT noT code hbm ha hr F hbind hT (fun b n => .inl (hn b n)) (fun b u z => ?_) (fun b z => ?_) (fun z => absurd (hn a aT) z)
      (hsp _ hT (.inr ⟨_, vs.toArray, _, hk, rfl, rfl, rfl, by rw [List.size_toArray, hlen]; exact hl, by simpa using rv⟩))
    · by_cases q : b = T
      · subst q
        rw [hT] at z
        cases z
        exact tabT
      · rw [hn b q] at z
        cases z
    · exact .inr (Classical.byContradiction fun q => z (hn b q))
  | none =>
    obtain ⟨H, hH⟩ : ∃ H : Hp, H = fun b => if b = a then some (.frz { cls := .type "list", data := .seq vs.toArray } (.lst (ns.map V.int))) else if b = T then some (.tbl #[]) else none := ⟨_, rfl⟩
    have ht : H a = some (.frz { cls := .type "list", data := .seq vs.toArray } (.lst (ns.map V.int))) := by rw [hH]; exact if_pos rfl
    have hT : H T = some (.tbl #[]) := by rw [hH]; show (if T = a then _ else _) = _; rw [if_neg (Ne.symm aT), if_pos rfl]
    have hn : ∀ b, b ≠ a → b ≠ T → H b = none := fun b q r => by rw [hH]; show (if b = a then _ else _) = _; rw [if_neg q, if_neg r]
    refine law_overT kin hns hb hbb hlim hg tabT noT code hbm ha hr F hbind hT (fun b n => ?_) (fun b u z => ?_) (fun b z => ?_) (fun _ => hk) (hsp _ hT (.inl (.inr ⟨_, ht⟩)))
    · by_cases q : b = a
      · subst q
        exact .inr ⟨_, _, ht⟩
      · exact .inl (hn b q n)
    · by_cases q : b = a
      · subst q
        rw [ht] at z
        cases z
        exact ⟨ha, by rw [List.length_map]; exact hl, vs, _, rv, ha⟩
      · by_cases r : b = T
        · subst r
          rw [hT] at z
          cases z
          exact tabT
        · rw [hn b q r] at z
          cases z
    · by_cases q : b = a
      · exact .inl q
      · exact .inr (Classical.byContradiction fun r => z (hn b q r))
end
/-- the head of the code object of a def, from what is written out of it -/
theorem codeHd_at {K : Frag} {h : Heap} {c T : Addr} {dd : Option Addr} {us : Array Value} {sl : Array (Option Value)} (kin : K.In h) (lk : K.lookup c = some ⟨.type "code", dd, .fields us, sl⟩) (e : (⟨.type "code", dd, .fields us, sl⟩ : Obj) = ⟨.type "code", dd, .fields us, sl⟩)
    (ck : ((match (us[11]? : Option Value) with | some (.ref P') => P' == T | _ => false) && (match us.getD 18 .none with | .str _ _ => true | _ => false) && (match us.getD 7 .none with | .int _ _ => true | _ => false) && (match us.getD 9 .none with | .bool _ => true | _ => false) && (match us.getD 10 .none with | .int _ _ => true | _ => false) && c != T) = true) : CodeHd h c T := by
  refine codeHd_of_K kin ?_
  unfold codeHdIn
  rw [lk]
  exact ck
/-- what is left of the row: F gives the law's def; its code object's table is empty yet -/
theorem walkGT {l : PySem.W.OpenLaw} {k : Nat} {q : Program} {loose : List Str} {XP : (Str → Option Value) → Heap → Prop} {YP : World → Heap → Prop} {d : DefRec} {K : Params → PySem.W.Frag} {sp : Addr → PySem.W.Frag → Sp} {x : Str}
    (hn : l.most = some 63) (hdf : d.params.defaults = []) (hr : Room k PySem.callerA) (hrec : ((PyProof.Rows.recsOf q).any fun e => e.name == d.name) = true)
    (hY : ∀ (w : World) (h : Heap), YP w h → (K w.params).In h)
    (F : ∀ (w : World) (mg : Str → Option Value) (fa : Addr) (h : Heap), (K w.params).In h → h.Ns mainGlobals mg → mg d.name = some (.ref fa) → (∀ c T, tabIn (K w.params) d.name = some (c, T) → CodeHd h c T) →
      ∃ (fd : FuncData) (c T : Addr), tabIn (K w.params) d.name = some (c, T) ∧ (K w.params).lookup T = none ∧ (∀ (s : Shared) (u : Value), BindsTo s fd ⟨[u], []⟩ [(x, u)]) ∧
        ∀ base : Heap, (K w.params).In base → base.Ns mainGlobals mg → TabB base mg c T → FnG l.prog w (K w.params) mg base k fa fd [x] (sp T (K w.params)))
    (hsp : ∀ (K : PySem.W.Frag) (H : Hp) (a T : Addr) (ns : List Int), ns.length ≤ 63 → H T = some (.tbl #[]) → SqL K H a (ns.map V.int) → sp T K [.ref a] H (fun v _ => v = .bl true) fun _ _ _ => False) :
    PySem.W.WalkO q loose XP YP l.row.toRowW d [] (fun f vs => PySem.call f vs) := by
  refine Att.attach_call hn hdf fun w s₀ s₁ mg mb fa o pm cd doc a vs ns G Y ho hd hcd hmg hobj hints hlen hg => ?_
  have kin := hY w _ Y
  obtain ⟨dL, hm, hn1⟩ := List.any_eq_true.mp hrec
  have tab : ∀ c T, tabIn (K w.params) d.name = some (c, T) → CodeHd s₁.heap c T ∧ s₁.heap.get? T = some (tabObj #[]) := fun c T e => by
    obtain ⟨dF, hF⟩ : ∃ dF, (PyProof.Rows.recsOf q).find? (fun e => e.name == d.name) = some dF := by
      cases e : (PyProof.Rows.recsOf q).find? (fun e => e.name == d.name) with
      | some dF => exact ⟨dF, rfl⟩
      | none => exact absurd hn1 (by have := List.find?_eq_none.mp e dL hm; simpa using this)
    exact tab_of G.T kin hF e
  obtain ⟨fd, c, T, ht, noT, hb, hF⟩ := F w mg fa _ kin G.T.g hmg fun c T e => (tab c T e).1
  obtain ⟨t1, t2⟩ := tab c T ht
  exact law_callT kin G.T.g G.T.b G.T.builtins G.T.nolimit hg t2 noT t1 G.T.bmain hobj hints (Nat.le_trans hlen (by rw [sizeLine_eq]; decide)) hr hF hb fun H hO hS => hsp _ H a T ns hlen hO hS
end DL

namespace DL
open PySem PySem.Spec L2 PySem.W
/-! ## x in a list or tuple of strs, for a dict x too -/
section
open AutoSeq1 (wpAny_loadPart')
open MeetsSeq SeqAt
variable {A : Around} {s : Shared}
theorem str_eq_declines_dict (b : Str) (u : Tok) (l : Addr) (c : Value) (es : Array DictEntry) (n : Nat) (dd : Option Addr) (sl : Array (Option Value)) :
    Meets (Builtin.«str.__eq__» ⟨[.str b u, .ref l], []⟩) (fun _ R s => s.heap.get? l = some { cls := c, dict := dd, data := .dict es n, slots := sl } ∧ R (.ok (.ret .notImplemented)) s) :=
  .of_wp fun prog w A R s h => by obtain ⟨hp, g, d, tk, os⟩ := s; obtain ⟨hl, h⟩ := h; wp_walk using wpAny_loadPart' hl, wpAny_load hl; exact ⟨_, rfl, h⟩
theorem dict_eq_declines_str (l : Addr) (es : Array DictEntry) (n : Nat) (dd : Option Addr) (sl : Array (Option Value)) (b : Str) (u : Tok) :
    Meets (Builtin.«dict.__eq__» ⟨[.ref l, .str b u], []⟩) (fun _ R s => s.heap.get? l = some { cls := .type "dict", dict := dd, data := .dict es n, slots := sl } ∧ R (.ok (.ret .notImplemented)) s) :=
  .of_wp fun prog w A R s h => by obtain ⟨hp, g, d, tk, os⟩ := s; obtain ⟨hl, h⟩ := h; have f1 := F.sub_str_dict; wp_walk using wpAny_loadPart' hl, wpAny_load hl; exact ⟨_, rfl, h⟩
theorem RcAt.str_dict {l : Addr} {o : Obj} {es : Array DictEntry} {n : Nat} (b : Str) (u : Tok) (ho : s.heap.get? l = some o) (hc : o.cls = .type "dict") (hd : o.data = .dict es n) (hu : A.units < cLine) : RcAt A s (.str b u) (.ref l) false := fun prog w E Q h => by
  obtain ⟨cls, dd, data, sl⟩ := o
  simp only at hc hd
  subst hc hd
  exact rc_eq_decline_or (k := false) (typeIs_str s b u) ⟨_, ho, rfl⟩ (by decide) F.sub_dict_str F.slot_str_eq F.slot_dict_eq_refl
    (fun _ hq => call_meets F.slot_str_eq (typeIs_str s b u) F.entry_str_eq (F.args_str_eq_2 _ _) (str_eq_declines_dict b u l (.type "dict") es n dd sl) ⟨ho, hq⟩)
    (fun _ hq => call_meets F.slot_dict_eq_refl ⟨_, ho, rfl⟩ F.entry_dict_eq (F.args_dict_eq_2 _ _) (dict_eq_declines_str l es n dd sl b u) ⟨ho, hq⟩)
    (fun _ hq => wpAny_of_eq (rfl : isSame (.str b u) (.ref l) = pure false) hq) (.inr hu) h
theorem EqAt.str_dict {l : Addr} {o : Obj} {es : Array DictEntry} {n : Nat} (b : Str) (u : Tok) (ho : s.heap.get? l = some o) (hc : o.cls = .type "dict") (hd : o.data = .dict es n) (hu : A.units < cLine) : EqAt A s (.str b u) (.ref l) false := fun prog w E Q h => by
  unfold eqBool
  refine wpAny_holding ?_
  refine wpAny_ite_split (fun hab => absurd (eq_of_beq hab) nofun) (fun _ => ?_)
  exact wpAny_bind (RcAt.str_dict b u ho hc hd hu prog w E _ (wpAny_truthy_bool h))
end
def isStrD : PyData → Bool
  | .str _ => true
  | _ => false
def inOk (d : PyData) : Prop := SeqAt.shaped d = true ∨ ∃ kvs, d = .dict kvs
def oInQ (neg : Bool) : D2 := fun x y R => match x.pd, y.seq with
  | some p, some ds => inOk p ∧ ds.all isStrD = true ∧ SeqAt.shaped (.list ds) = true ∧ R (.d (.bool (if neg then !(ds.any fun z => PyData.eqv z p) else ds.any fun z => PyData.eqv z p)))
  | _, _ => False
def rInQ (K : PySem.W.Frag) (neg : Bool) : R2 := fun x y H Q => ∃ d ds, Da K H x d ∧ (Da K H y (.list ds) ∨ Da K H y (.tuple ds)) ∧ inOk d ∧ ds.all isStrD = true ∧ SeqAt.shaped (.list ds) = true ∧ Q (.bl (if neg then !(ds.any fun z => PyData.eqv z d) else ds.any fun z => PyData.eqv z d)) H
theorem any_dict {kvs : List (PyData × PyData)} : ∀ {ds : List PyData}, ds.all isStrD = true → (ds.any fun z => PyData.eqv z (.dict kvs)) = false
  | [], _ => rfl
  | .str x :: ds, h => by
    simp only [List.all_cons, Bool.and_eq_true] at h
    rw [List.any_cons, any_dict h.2]
    simp [PyData.eqv]
  | .none :: _, h => by simp [isStrD] at h
  | .bool _ :: _, h => by simp [isStrD] at h
  | .int _ :: _, h => by simp [isStrD] at h
  | .list _ :: _, h => by simp [isStrD] at h
  | .tuple _ :: _, h => by simp [isStrD] at h
  | .dict _ :: _, h => by simp [isStrD] at h
theorem AtL.strs {K : PySem.W.Frag} {F : Hp} : ∀ {ds : List PyData} {vs : List V}, ds.all isStrD = true → AtL K F vs ds → ∀ v ∈ vs, ∃ x, v = .str x
  | [], _, _, h => by cases h; simp
  | d :: ds, _, hs, h => by
    simp only [List.all_cons, Bool.and_eq_true] at hs
    cases h with
    | cons h1 h2 =>
      intro v hv
      rcases List.mem_cons.mp hv with rfl | hv
      · match d, hs.1, h1 with
        | .str x, _, h1 => cases h1; exact ⟨x, rfl⟩
      · exact AtL.strs hs.2 h2 v hv
theorem vals_strs {vs : List V} {us : List Value} (h : Vals vs us) (hs : ∀ v ∈ vs, ∃ x, v = V.str x) : ∀ u ∈ us, ∃ x t, u = .str x t := by
  induction h with
  | nil => simp
  | cons r1 r2 ih =>
    intro u hu
    rcases List.mem_cons.mp hu with rfl | hu
    · obtain ⟨x, rfl⟩ := hs _ (List.mem_cons_self ..)
      obtain ⟨t, rfl⟩ := r1
      exact ⟨x, t, rfl⟩
    · exact ih (fun v hv => hs v (List.mem_cons_of_mem _ hv)) u hu
section
variable {X : Cx} {W : WC} {u1 u2 : Nat} {a b : Expr} {ma mb : ME} {pos : Pos}
theorem any_false {us : Array Value} : us.any (fun _ => false) = false := by
  rw [← Array.any_toList]
  induction us.toList with
  | nil => rfl
  | cons _ _ ih => exact ih
theorem op_inQ (hu : X.A.units + 65 < cLine) (neg : Bool) : OpR X (compareOp (if neg then .NotIn else .In)) (rInQ X.K neg) := by
  intro pins s σ H x y v u Q I rx ry ⟨d, ds, dd, hs, sd, ss, se, q⟩
  rcases sd with sd | ⟨kvs, rfl⟩
  · cases neg with
    | false => exact op_inA hu pins s σ H x y v u Q I rx ry ⟨d, ds, dd, hs, sd, se, q⟩
    | true => exact op_notInA hu pins s σ H x y v u Q I rx ry ⟨d, ds, dd, hs, sd, se, q⟩
  · rw [any_dict ss] at q
    obtain ⟨F, hF, hd⟩ := dd
    cases hd with
    | @dct a kvs' _ hl ha =>
      cases rx
      obtain ⟨_, hsm, vs, rel, o, es, ep, eo, exd, hdat, _, hp, _⟩ := dk_rd I.hok (rd_mono hF hl)
      have hu' : X.A.in1.units < cLine := by show X.A.units + 1 < cLine; omega
      have EQ : ∀ w : Value, (∃ z t, w = .str z t) → SeqAt.EqAt X.A.in1 s w (.ref a) false := by
        rintro w ⟨z, t, rfl⟩
        exact EqAt.str_dict z t eo exd.1 hdat hu'
      rcases hs with ⟨F', hF', he⟩ | ⟨F', hF', he⟩
      · cases he with
        | lst hl2 ha2 =>
          cases ry
          obtain ⟨its, rv, ⟨o2, n, ho2, hc2, _, hdat2⟩, _⟩ := I.list (SqL.of (hF' _ _ hl2))
          have st := vals_strs rv (AtL.strs ss ha2)
          cases neg with
          | false => exact SeqAt.in_listAt (fun _ => false) ⟨o2, ho2, hc2, n, hdat2⟩ (fun y hy => EQ y (st y (by simpa using hy))) (by rw [any_false]; exact ⟨.bl _, H, I, rfl, q⟩)
          | true => exact SeqAt.notIn_listAt (fun _ => false) ⟨o2, ho2, hc2, n, hdat2⟩ (fun y hy => EQ y (st y (by simpa using hy))) (by rw [any_false]; exact ⟨.bl _, H, I, rfl, q⟩)
      · cases he with
        | tup hl2 ha2 =>
          cases ry
          obtain ⟨its, rv, ⟨o2, ho2, hc2, n, hdat2⟩, _⟩ := I.tuple (sqT_mono hF' hl2)
          have st := vals_strs rv (AtL.strs ss ha2)
          cases neg with
          | false => exact SeqAt.in_tupleAt (fun _ => false) ⟨o2, ho2, hc2, n, hdat2⟩ (fun y hy => EQ y (st y (by simpa using hy))) (by rw [any_false]; exact ⟨.bl _, H, I, rfl, q⟩)
          | true => exact SeqAt.notIn_tupleAt (fun _ => false) ⟨o2, ho2, hc2, n, hdat2⟩ (fun y hy => EQ y (st y (by simpa using hy))) (by rw [any_false]; exact ⟨.bl _, H, I, rfl, q⟩)
theorem o2_inQ {neg : Bool} : Op2 X (rInQ X.K neg) (oInQ neg) := by
  intro G F δ σ H v u x y R Q hK g hx hy h k
  unfold oInQ at h
  split at h
  · rename_i p ds e1 e2
    have d1 := pd_da hx g.fh e1
    rw [hK] at d1
    have d2 : Da X.K H u (.list ds) ∨ Da X.K H u (.tuple ds) := by
      match y, e2, hy with
      | .d (.list xs), e2, hy => cases e2; left; have := pd_da hy g.fh rfl; rw [hK] at this; exact this
      | .d (.tuple xs), e2, hy => cases e2; right; have := pd_da hy g.fh rfl; rw [hK] at this; exact this
      | .own xs, e2, hy => cases e2; left; have := pd_da hy g.fh rfl; rw [hK] at this; exact this
      | .bor xs, e2, hy => cases e2; left; have := pd_da hy g.fh rfl; rw [hK] at this; exact this
    exact ⟨p, ds, d1, d2, h.1, h.2.1, h.2.2.1, k _ h.2.2.2 _ F H (g.pushD (.bl _))⟩
  · exact h.elim
theorem de_inQ (cx : CtxU X) (ha : DE X W a ma u1) (hb : DE X W b mb u2) (hm : behindInMarks .In b = false := by rfl) : DE X W (.Compare a [.In] [b] pos) (mBin (oInQ false) ma mb) (u1 + u2) := de_cmp (op_inQ cx.u65 false) o2_inQ ha hb hm
theorem de_notinQ (cx : CtxU X) (ha : DE X W a ma u1) (hb : DE X W b mb u2) (hm : behindInMarks .NotIn b = false := by rfl) : DE X W (.Compare a [.NotIn] [b] pos) (mBin (oInQ true) ma mb) (u1 + u2) := de_cmp (op_inQ cx.u65 true) o2_inQ ha hb hm
theorem dt_inQ (cx : CtxU X) (ha : DE X W a ma u1) (hb : DE X W b mb u2) (hm : behindInMarks .In b = false := by rfl) : DT X W (.Compare a [.In] [b] pos) (mB (mBin (oInQ false) ma mb)) (u1 + u2) := dt_cmp (op_inQ cx.u65 false) o2_inQ ha hb hm
theorem dt_notinQ (cx : CtxU X) (ha : DE X W a ma u1) (hb : DE X W b mb u2) (hm : behindInMarks .NotIn b = false := by rfl) : DT X W (.Compare a [.NotIn] [b] pos) (mB (mBin (oInQ true) ma mb)) (u1 + u2) := dt_cmp (op_inQ cx.u65 true) o2_inQ ha hb hm
end
theorem tabIn_at {K : Frag} {x : Str} {f c T : Addr} {oc oc' : Value} {od od' : Option Addr} {sl sl' : Array (Option Value)} {fd : FuncData} {us : Array Value} (a : nsIn K mainGlobals x = some (some (.ref f))) (l : K.lookup f = some ⟨oc, od, .func fd, sl⟩) (hc : fd.code = .ref c)
    (t : K.lookup c = some ⟨oc', od', .fields us, sl'⟩) (u : us[11]? = some (.ref T)) : tabIn K x = some (c, T) := by
  unfold tabIn
  rw [a]
  dsimp only
  rw [l]
  dsimp only
  rw [hc]
  dsimp only
  rw [t]
  dsimp only
  rw [u]
theorem dr_s {δ : Env} {x : Option DV} {n : Nat} : (dropO (x :: δ))[n + 1]? = (dropO δ)[n]? := rfl
theorem oInQ_t {x : PyData} {ys : List PyData} {R : DV → Prop} {neg : Bool} : oInQ neg (.d x) (.d (.tuple ys)) R = (inOk x ∧ ys.all isStrD = true ∧ SeqAt.shaped (.list ys) = true ∧ R (.d (.bool (if neg then !(ys.any fun z => PyData.eqv z x) else ys.any fun z => PyData.eqv z x)))) := rfl
theorem oInQ_l {x : PyData} {ys : List PyData} {R : DV → Prop} {neg : Bool} : oInQ neg (.d x) (.d (.list ys)) R = (inOk x ∧ ys.all isStrD = true ∧ SeqAt.shaped (.list ys) = true ∧ R (.d (.bool (if neg then !(ys.any fun z => PyData.eqv z x) else ys.any fun z => PyData.eqv z x)))) := rfl
theorem oInQ_o {x : PyData} {ys : List PyData} {R : DV → Prop} {neg : Bool} : oInQ neg (.d x) (.own ys) R = (inOk x ∧ ys.all isStrD = true ∧ SeqAt.shaped (.list ys) = true ∧ R (.d (.bool (if neg then !(ys.any fun z => PyData.eqv z x) else ys.any fun z => PyData.eqv z x)))) := rfl
end DL

/-! ## a dict is locked while it is walked -/
namespace DL
open PySem PySem.Spec L2
/-- as a heap is seen when dicts are locked or unlocked -/
structure Tr (F F' : Hp) : Prop where
  o : ∀ b u, F b = some u → (∀ kvs, ¬ Rd F b (.dK kvs)) → F' b = some u
  d : ∀ b kvs, Rd F b (.dK kvs) → Rd F' b (.dK kvs)
section
variable {K : PySem.W.Frag} {F F' : Hp}
theorem Tr.lst (e : Tr F F') {a : Addr} {vs : List V} (h : F a = some (.lst vs)) : F' a = some (.lst vs) := e.o _ _ h fun kvs q => by
  rcases q with q | ⟨o, q⟩ <;> (rw [h] at q; cases q)
theorem Tr.ne (e : Tr F F') {a : Addr} {u : HO} (h : F a = some u) (h1 : ∀ kvs, u ≠ .dK kvs) (h2 : ∀ o kvs, u ≠ .frz o (.dK kvs)) : F' a = some u := e.o _ _ h fun kvs q => by
  rcases q with q | ⟨o, q⟩
  · rw [h] at q; cases q; exact h1 _ rfl
  · rw [h] at q; cases q; exact h2 _ _ rfl
theorem Tr.sqT (e : Tr F F') {a : Addr} {vs : List V} (h : SqT K F a vs) : SqT K F' a vs := by
  rcases h with (h | ⟨o, h⟩) | h
  · exact .inl (.inl (e.ne h (fun _ z => by cases z) (fun _ _ z => by cases z)))
  · exact .inl (.inr ⟨o, e.ne h (fun _ z => by cases z) (fun _ _ z => by cases z)⟩)
  · exact .inr h
theorem Tr.sqL (e : Tr F F') {a : Addr} {vs : List V} (h : SqL K F a vs) : SqL K F' a vs := by
  rcases h with (h | ⟨o, h⟩) | h
  · exact .inl (.inl (e.ne h (fun _ z => by cases z) (fun _ _ z => by cases z)))
  · exact .inl (.inr ⟨o, e.ne h (fun _ z => by cases z) (fun _ _ z => by cases z)⟩)
  · exact .inr h
mutual
theorem At.tr (e : Tr F F') : ∀ (d : PyData) (v : V), At K F v d → At K F' v d
  | .none, _, h => by cases h; exact .non
  | .bool b, _, h => by cases h; exact .bl b
  | .int i, _, h => by cases h; exact .int i
  | .str x, _, h => by cases h; exact .str x
  | .list ds, _, h => by
    cases h with
    | lst hs ha => exact .lst (e.lst hs) (AtL.tr e ds _ ha)
  | .tuple ds, _, h => by
    cases h with
    | tup hs ha => exact .tup (e.sqT hs) (AtL.tr e ds _ ha)
  | .dict ds, _, h => by
    cases h with
    | dct hs ha => exact .dct (e.d _ _ hs) (AtKv.tr e ds _ ha)
theorem AtL.tr (e : Tr F F') : ∀ (ds : List PyData) (vs : List V), AtL K F vs ds → AtL K F' vs ds
  | [], _, h => by cases h; exact .nil
  | d :: ds, _, h => by
    cases h with
    | cons h1 h2 => exact .cons (At.tr e d _ h1) (AtL.tr e ds _ h2)
theorem AtKv.tr (e : Tr F F') : ∀ (ds : List (PyData × PyData)) (kvs : List (Key × V)), AtKv K F kvs ds → AtKv K F' kvs ds
  | [], _, h => by cases h; exact .nil
  | (k, d) :: ds, _, h => by
    cases h with
    | cons h1 h2 => exact .cons (At.tr e d _ h1) (AtKv.tr e ds _ h2)
end
end
theorem tr_lock {F : Hp} {l : Addr} {kvs : List (Key × V)} {o : Obj} (h : F l = some (.dK kvs)) : Tr F (upd F l (.frz o (.dK kvs))) := by
  refine ⟨fun b u e n => ?_, fun b ks q => ?_⟩
  · rw [upd_ne (fun z => n kvs (by rw [z]; exact .inl h))]; exact e
  · by_cases z : b = l
    · subst z
      rcases q with q | ⟨o', q⟩
      · rw [h] at q; cases q; exact .inr ⟨o, upd_same⟩
      · rw [h] at q; cases q
    · rcases q with q | ⟨o', q⟩
      · exact .inl (by rw [upd_ne z]; exact q)
      · exact .inr ⟨o', by rw [upd_ne z]; exact q⟩
theorem tr_unlock {F : Hp} {l : Addr} {kvs : List (Key × V)} {o : Obj} (h : F l = some (.frz o (.dK kvs))) : Tr F (upd F l (.dK kvs)) := by
  refine ⟨fun b u e n => ?_, fun b ks q => ?_⟩
  · rw [upd_ne (fun z => n kvs (by rw [z]; exact .inr ⟨o, h⟩))]; exact e
  · by_cases z : b = l
    · subst z
      rcases q with q | ⟨o', q⟩
      · rw [h] at q; cases q
      · rw [h] at q; cases q; exact .inl upd_same
    · rcases q with q | ⟨o', q⟩
      · exact .inl (by rw [upd_ne z]; exact q)
      · exact .inr ⟨o', by rw [upd_ne z]; exact q⟩
def lkP (l : Addr) (o : Obj) (kvs : List (Key × V)) : Unit → LkP := fun _ => ⟨l, o, kvs⟩
def DV.isLk : DV → Bool
  | .olk _ _ => true
  | .blk _ _ => true
  | .ldk _ _ => true
  | _ => false
section
variable {G : Gm} {F F2 H H2 : Hp} {δ : Env} {σ : L2.St} {i : Nat} {x y : DV} {v : V} {l : Addr} {kvs : List (Key × V)} {ks : List (PyData × PyData)} {o : Obj}
theorem Good.reslot (g : Good G F δ σ H) (e : δ[i]? = some (some x)) (ev : σ[i]? = some (some v)) (h : VOk G F H v y) (ho : y.isOwn = true → x.isOwn = true) : Good G F (δ.set i (some y)) σ H := by
  have back : ∀ {j : Nat} {z : DV}, (δ.set i (some y))[j]? = some (some z) → (j = i ∧ z = y) ∨ (j ≠ i ∧ δ[j]? = some (some z)) := fun {j z} q => by
    rcases get_set q with ⟨rfl, q', _⟩ | ⟨hj, q'⟩
    · cases q'; exact .inl ⟨rfl, rfl⟩
    · exact .inr ⟨hj, q'⟩
  have own : ∀ {j : Nat} {z : DV}, z.isOwn = true → (δ.set i (some y))[j]? = some (some z) → ∃ z', z'.isOwn = true ∧ δ[j]? = some (some z') := fun {j z} hz q => by
    rcases back q with ⟨rfl, rfl⟩ | ⟨_, q⟩
    · exact ⟨x, ho hz, e⟩
    · exact ⟨z, hz, q⟩
  refine ⟨g.g, by simpa using g.len, g.f0, g.fh, g.fr, g.bh, g.cf, g.jh, fun j z q => ?_, fun a b p q l' hp hq e1 e2 e3 e4 => ?_⟩
  · rcases back q with ⟨rfl, rfl⟩ | ⟨_, q⟩
    · exact ⟨v, ev, h⟩
    · exact g.sl j z q
  · obtain ⟨p', hp', f1⟩ := own hp e1
    obtain ⟨q', hq', f2⟩ := own hq e2
    exact g.di a b p' q' l' hp' hq' f1 f2 e3 e4
/-! ### one's own -/
theorem Good.lockO (g : Good G F δ σ H) (e : δ[i]? = some (some (.odk ks))) (ev : σ[i]? = some (some (.ref l))) (hl : H l = some (.dK kvs)) (o : Obj) : Good G F (δ.set i (some (.olk (lkP l o kvs) ks))) σ (upd H l (.frz o (.dK kvs))) := by
  obtain ⟨v, ev', hv⟩ := g.sl i _ e
  obtain ⟨l', kvs', rfl, h1, h2, h3, h4⟩ := hv
  rw [ev] at ev'
  cases ev'
  rw [hl] at h1
  cases h1
  have cl := own_nc g h4
  have back : ∀ {j : Nat} {z : DV}, (δ.set i (some (.olk (lkP l o kvs) ks)))[j]? = some (some z) → (j = i ∧ z = (.olk (lkP l o kvs) ks)) ∨ (j ≠ i ∧ δ[j]? = some (some z)) := fun {j z} q => by
    rcases get_set q with ⟨rfl, q', _⟩ | ⟨hj, q'⟩
    · cases q'; exact .inl ⟨rfl, rfl⟩
    · exact .inr ⟨hj, q'⟩
  have own : ∀ {j : Nat} {z : DV}, z.isOwn = true → (δ.set i (some (.olk (lkP l o kvs) ks)))[j]? = some (some z) → ∃ z', z'.isOwn = true ∧ δ[j]? = some (some z') := fun {j z} hz q => by
    rcases back q with ⟨rfl, rfl⟩ | ⟨_, q⟩
    · exact ⟨.odk ks, rfl, e⟩
    · exact ⟨z, hz, q⟩
  refine ⟨g.g, by simpa using g.len, g.f0, fun b u q => ?_, g.fr, fun b u c q => ?_, g.cf, g.g.js _ _ _ g.jh (fun b c => upd_ne (fun z : b = l => cl (z ▸ c))) (fun b φ q => (upd_ne (fun z => by rw [z, hl] at q; cases q)).trans q), fun j z q => ?_, fun a b p q l' hp hq e1 e2 e3 e4 => ?_⟩
  · rw [upd_ne (ne_of_none q h3)]; exact g.fh _ _ q
  · rw [upd_ne (ne_of_none q h4)]; exact g.bh _ _ c q
  · rcases back q with ⟨rfl, rfl⟩ | ⟨hj, q2⟩
    · exact ⟨_, ev, _, rfl, rfl, upd_same, h2, h3, h4⟩
    · obtain ⟨w, ew, hw⟩ := g.sl j z q2
      refine ⟨w, ew, ?_⟩
      by_cases hb : ∃ ks', z = .bdk ks'
      · obtain ⟨ks', rfl⟩ := hb
        obtain ⟨p, kv', rfl, r1, r2, r3⟩ := hw
        refine ⟨p, kv', rfl, ?_, r2, r3⟩
        by_cases hp : p = l
        · subst hp
          rcases r1 with r1 | ⟨o', r1⟩
          · rw [hl] at r1; cases r1; exact .inr ⟨o, upd_same⟩
          · rw [hl] at r1; cases r1
        · rcases r1 with r1 | ⟨o', r1⟩
          · exact .inl (by rw [upd_ne hp]; exact r1)
          · exact .inr ⟨o', by rw [upd_ne hp]; exact r1⟩
      · refine hw.keep (Same.refl F) (fun p ob ho hv hp => ?_) fun _ _ _ q => q
        have hne : p ≠ l := fun hpl => by
          subst hpl
          subst hv
          cases hz : z.isOwn with
          | true => exact hj (g.di j i z (.odk ks) _ hz rfl q2 e ew ev)
          | false =>
            cases z with
            | bor xs =>
              obtain ⟨p', vs, r0, r1, _⟩ := hw
              cases r0
              rw [hl] at r1; cases r1
            | blk p' xs =>
              obtain ⟨_, _, r0, r1, _⟩ := hw
              cases r0
              rw [hl] at r1; cases r1
            | bdk xs => exact hb ⟨xs, rfl⟩
            | own xs => cases hz
            | odk xs => cases hz
            | olk _ xs => cases hz
            | _ => cases ho
        rw [upd_ne hne]; exact hp
  · obtain ⟨p', hp', f1⟩ := own hp e1
    obtain ⟨q', hq', f2⟩ := own hq e2
    exact g.di a b p' q' l' hp' hq' f1 f2 e3 e4
theorem Good.unlockO (g : Good G F δ σ H) (e : δ[i]? = some (some (.olk (lkP l o kvs) ks))) (ev : σ[i]? = some (some (.ref l))) (hl : H l = some (.frz o (.dK kvs))) (nl : ∀ (j : Nat) (z : DV), j ≠ i → δ[j]? = some (some z) → z.isLk = true → σ[j]? ≠ some (some (.ref l))) : Good G F (δ.set i (some (.odk ks))) σ (upd H l (.dK kvs)) := by
  obtain ⟨v, ev', hv⟩ := g.sl i _ e
  obtain ⟨_, _, rfl, h1, h2, h3, h4⟩ := hv
  replace h1 : H l = some (.frz o (.dK kvs)) := h1
  replace h2 : AtKv G.K F kvs ks := h2
  replace h3 : F l = none := h3
  replace h4 : G.B l = none := h4
  have cl := own_nc g h4
  have back : ∀ {j : Nat} {z : DV}, (δ.set i (some (.odk ks)))[j]? = some (some z) → (j = i ∧ z = .odk ks) ∨ (j ≠ i ∧ δ[j]? = some (some z)) := fun {j z} q => by
    rcases get_set q with ⟨rfl, q', _⟩ | ⟨hj, q'⟩
    · cases q'; exact .inl ⟨rfl, rfl⟩
    · exact .inr ⟨hj, q'⟩
  have own : ∀ {j : Nat} {z : DV}, z.isOwn = true → (δ.set i (some (.odk ks)))[j]? = some (some z) → ∃ z', z'.isOwn = true ∧ δ[j]? = some (some z') := fun {j z} hz q => by
    rcases back q with ⟨rfl, rfl⟩ | ⟨_, q⟩
    · exact ⟨.olk (lkP l o kvs) ks, rfl, e⟩
    · exact ⟨z, hz, q⟩
  refine ⟨g.g, by simpa using g.len, g.f0, fun b u q => ?_, g.fr, fun b u c q => ?_, g.cf, g.g.js _ _ _ g.jh (fun b c => upd_ne (fun z : b = l => cl (z ▸ c))) (fun b φ q => (upd_ne (fun z => by rw [z, hl] at q; cases q)).trans q), fun j z q => ?_, fun a b p q l' hp hq e1 e2 e3 e4 => ?_⟩
  · rw [upd_ne (ne_of_none q h3)]; exact g.fh _ _ q
  · rw [upd_ne (ne_of_none q h4)]; exact g.bh _ _ c q
  · rcases back q with ⟨rfl, rfl⟩ | ⟨hj, q2⟩
    · exact ⟨_, ev, l, kvs, rfl, upd_same, h2, h3, h4⟩
    · obtain ⟨w, ew, hw⟩ := g.sl j z q2
      refine ⟨w, ew, ?_⟩
      by_cases hb : ∃ ks', z = .bdk ks'
      · obtain ⟨ks', rfl⟩ := hb
        obtain ⟨p, kv', rfl, r1, r2, r3⟩ := hw
        refine ⟨p, kv', rfl, ?_, r2, r3⟩
        by_cases hp : p = l
        · subst hp
          rcases r1 with r1 | ⟨o', r1⟩
          · rw [hl] at r1; cases r1
          · rw [hl] at r1; cases r1; exact .inl upd_same
        · rcases r1 with r1 | ⟨o', r1⟩
          · exact .inl (by rw [upd_ne hp]; exact r1)
          · exact .inr ⟨o', by rw [upd_ne hp]; exact r1⟩
      · refine hw.keep (Same.refl F) (fun p ob ho hv hp => ?_) fun _ _ _ q => q
        have hne : p ≠ l := fun hpl => by
          subst hpl
          subst hv
          cases hz : z.isOwn with
          | true => exact hj (g.di j i z _ _ hz (show DV.isOwn (.olk (lkP p o kvs) ks) = true from rfl) q2 e ew ev)
          | false =>
            cases z with
            | bor xs =>
              obtain ⟨p', vs, r0, r1, _⟩ := hw
              cases r0
              rw [hl] at r1; cases r1
            | blk _ xs => exact nl j _ hj q2 rfl ew
            | bdk xs => exact hb ⟨xs, rfl⟩
            | own xs => cases hz
            | odk xs => cases hz
            | olk _ xs => cases hz
            | _ => cases ho
        rw [upd_ne hne]; exact hp
  · obtain ⟨p', hp', f1⟩ := own hp e1
    obtain ⟨q', hq', f2⟩ := own hq e2
    exact g.di a b p' q' l' hp' hq' f1 f2 e3 e4
/-! ### fixed data -/
def lkH (M : Hp) (l : Addr) (x : HO) : Hp := fun p => if p = l then (M l).map fun _ => x else M p
theorem lkH_same {M : Hp} {l : Addr} {x : HO} : lkH M l x l = (M l).map fun _ => x := if_pos rfl
theorem lkH_ne {M : Hp} {l p : Addr} {x : HO} (h : p ≠ l) : lkH M l x p = M p := if_neg h
@[reducible] def Gm.lk (G : Gm) (l : Addr) (x : HO) : Gm := { G with F0 := lkH G.F0 l x, B := lkH G.B l x }
theorem Good.lockF (g : Good G F δ σ H) (hl : F l = some (.dK kvs)) (o : Obj) : Good (G.lk l (.frz o (.dK kvs))) (upd F l (.frz o (.dK kvs))) δ σ (upd H l (.frz o (.dK kvs))) := by
  have hH := g.fh _ _ hl
  have cl : ¬ G.C l := fun c => by have := g.cf l c; rw [hl] at this; cases this
  have tr : Tr F (upd F l (.frz o (.dK kvs))) := tr_lock hl
  refine ⟨⟨g.g.js, g.g.jm, g.g.jn, fun p c => ?_⟩, g.len, fun b u q => ?_, fun b u q => ?_, fun b q1 q2 => ?_, fun b u c q => ?_, fun b c => ?_, g.g.js _ _ _ g.jh (fun b c => upd_ne (fun z : b = l => cl (z ▸ c))) (fun b φ q => (upd_ne (fun z => by rw [z, hH] at q; cases q)).trans q), fun j z q => ?_, g.di⟩
  · show lkH G.B l _ p ≠ none
    rw [lkH_ne (fun z : p = l => cl (z ▸ c))]; exact g.g.cb p c
  · have q : lkH G.F0 l (.frz o (.dK kvs)) b = some u := q
    by_cases z : b = l
    · subst z
      rw [lkH_same] at q
      cases h0 : G.F0 b with
      | none => rw [h0] at q; cases q
      | some w => rw [h0] at q; cases q; exact upd_same
    · rw [lkH_ne z] at q
      rw [upd_ne z]; exact g.f0 _ _ q
  · by_cases z : b = l
    · subst z
      rw [upd_same] at q ⊢; exact q
    · rw [upd_ne z] at q ⊢; exact g.fh _ _ q
  · show lkH G.B l _ b = none
    have q2 : lkH G.F0 l (.frz o (.dK kvs)) b = none := q2
    by_cases z : b = l
    · subst z
      rw [lkH_same] at q2 ⊢
      have h0 : G.F0 b = none := by cases h : G.F0 b with | none => rfl | some w => rw [h] at q2; cases q2
      rw [g.fr b (by rw [hl]; simp) h0]; rfl
    · rw [upd_ne z] at q1
      rw [lkH_ne z] at q2 ⊢
      exact g.fr b q1 q2
  · have q : lkH G.B l (.frz o (.dK kvs)) b = some u := q
    by_cases z : b = l
    · subst z
      rw [lkH_same] at q
      cases h0 : G.B b with
      | none => rw [h0] at q; cases q
      | some w => rw [h0] at q; cases q; exact upd_same
    · rw [lkH_ne z] at q
      rw [upd_ne z]; exact g.bh _ _ c q
  · rw [upd_ne (fun z : b = l => cl (z ▸ c))]; exact g.cf b c
  · obtain ⟨w, ew, hw⟩ := g.sl j z q
    refine ⟨w, ew, ?_⟩
    have nF : ∀ {p : Addr}, F p = none → p ≠ l := fun {p} h z => by rw [z, hl] at h; cases h
    have fN : ∀ {p : Addr}, F p = none → upd F l (.frz o (.dK kvs)) p = none := fun {p} h => by rw [upd_ne (nF h)]; exact h
    have bN : ∀ {p : Addr}, G.B p = none → lkH G.B l (.frz o (.dK kvs)) p = none := fun {p} h => by
      by_cases z : p = l
      · subst z; rw [lkH_same, h]; rfl
      · rw [lkH_ne z]; exact h
    have hN : ∀ {p : Addr} {u : HO}, H p = some u → (∀ kvs, u ≠ .dK kvs) → upd H l (.frz o (.dK kvs)) p = some u := fun {p u} h n => by
      rw [upd_ne (fun z => by rw [z, hH] at h; cases h; exact n _ rfl)]; exact h
    cases z with
    | d x => exact At.tr tr _ _ hw
    | own xs =>
      obtain ⟨p, vs, rfl, h1, h2, h3, h4⟩ := hw
      exact ⟨p, vs, rfl, hN h1 (fun _ z => by cases z), AtL.tr tr _ _ h2, fN h3, bN h4⟩
    | bor xs =>
      obtain ⟨p, vs, rfl, h1, h2, h4⟩ := hw
      exact ⟨p, vs, rfl, hN h1 (fun _ z => by cases z), AtL.tr tr _ _ h2, bN h4⟩
    | cask => exact hw
    | raw u => exact hw
    | scr xs =>
      obtain ⟨a, h1, h2⟩ := hw
      exact ⟨a, h1, tr.sqL h2⟩
    | odk xs =>
      obtain ⟨p, vs, rfl, h1, h2, h3, h4⟩ := hw
      exact ⟨p, vs, rfl, by rw [upd_ne (nF h3)]; exact h1, AtKv.tr tr _ _ h2, fN h3, bN h4⟩
    | bdk xs =>
      obtain ⟨p, vs, rfl, h1, h2, h4⟩ := hw
      exact ⟨p, vs, rfl, (tr_lock hH).d _ _ h1, AtKv.tr tr _ _ h2, bN h4⟩
    | olk p xs =>
      obtain ⟨_, _, rfl, h1, h2, h3, h4⟩ := hw
      exact ⟨_, rfl, rfl, by rw [upd_ne (nF h3)]; exact h1, AtKv.tr tr _ _ h2, fN h3, bN h4⟩
    | blk p xs =>
      obtain ⟨_, _, rfl, h1, h2, h4⟩ := hw
      exact ⟨_, rfl, rfl, hN h1 (fun _ z => by cases z), AtKv.tr tr _ _ h2, bN h4⟩
    | ldk p xs =>
      obtain ⟨_, _, rfl, h1, h2⟩ := hw
      exact ⟨_, rfl, rfl, by rw [upd_ne (fun z => by rw [z, hl] at h1; cases h1)]; exact h1, AtKv.tr tr _ _ h2⟩
    | exc a C d er =>
      obtain ⟨cn, arg⟩ := er
      cases arg with
      | none => exact hw
      | some p =>
        obtain ⟨f, x⟩ := p
        obtain ⟨e, dd, w, h1, h2, h3⟩ := hw
        exact ⟨e, dd, w, h1, by rw [upd_ne (fun z => by rw [z, hl] at h2; cases h2)]; exact h2, At.tr tr _ _ h3⟩
theorem Good.unlockF (g : Good (G.lk l (.frz o (.dK kvs))) F δ σ H) (hg : ∀ p, G.C p → G.B p ≠ none) (hl : F l = some (.frz o (.dK kvs))) (h0 : ∀ u, G.F0 l = some u → u = .dK kvs) (hB : ∀ u, G.B l = some u → u = .dK kvs) (nl : ∀ (j : Nat) (z : DV), δ[j]? = some (some z) → z.isLk = true → σ[j]? ≠ some (some (.ref l))) :
    Good G (upd F l (.dK kvs)) δ σ (upd H l (.dK kvs)) := by
  have hH := g.fh _ _ hl
  have cl : ¬ G.C l := fun c => by have := g.cf l c; rw [hl] at this; cases this
  have tr : Tr F (upd F l (.dK kvs)) := tr_unlock hl
  refine ⟨⟨g.g.js, g.g.jm, g.g.jn, hg⟩, g.len, fun b u q => ?_, fun b u q => ?_, fun b q1 q2 => ?_, fun b u c q => ?_, fun b c => ?_, g.g.js _ _ _ g.jh (fun b c => upd_ne (fun z : b = l => cl (z ▸ c))) (fun b φ q => (upd_ne (fun z => by rw [z, hH] at q; cases q)).trans q), fun j z q => ?_, g.di⟩
  · by_cases z : b = l
    · subst z
      rw [upd_same, h0 u q]
    · have := g.f0 b u (by show lkH G.F0 l _ b = some u; rw [lkH_ne z]; exact q)
      rw [upd_ne z]; exact this
  · by_cases z : b = l
    · subst z
      rw [upd_same] at q ⊢; exact q
    · rw [upd_ne z] at q ⊢; exact g.fh _ _ q
  · have q3 := g.fr b (by
      by_cases z : b = l
      · subst z; rw [hl]; simp
      · rw [upd_ne z] at q1; exact q1) (by
      show lkH G.F0 l _ b = none
      by_cases z : b = l
      · subst z; rw [lkH_same, q2]; rfl
      · rw [lkH_ne z]; exact q2)
    have q3 : lkH G.B l (.frz o (.dK kvs)) b = none := q3
    by_cases z : b = l
    · subst z
      rw [lkH_same] at q3
      cases h : G.B b with
      | none => rfl
      | some w => rw [h] at q3; cases q3
    · rw [lkH_ne z] at q3; exact q3
  · by_cases z : b = l
    · subst z
      rw [upd_same, hB u q]
    · have := g.bh b u c (by show lkH G.B l _ b = some u; rw [lkH_ne z]; exact q)
      rw [upd_ne z]; exact this
  · rw [upd_ne (fun z : b = l => cl (z ▸ c))]; exact g.cf b c
  · obtain ⟨w, ew, hw⟩ := g.sl j z q
    refine ⟨w, ew, ?_⟩
    have nF : ∀ {p : Addr}, F p = none → p ≠ l := fun {p} h z => by rw [z, hl] at h; cases h
    have fN : ∀ {p : Addr}, F p = none → upd F l (.dK kvs) p = none := fun {p} h => by rw [upd_ne (nF h)]; exact h
    have bN : ∀ {p : Addr}, lkH G.B l (.frz o (.dK kvs)) p = none → G.B p = none := fun {p} h => by
      by_cases z : p = l
      · subst z
        rw [lkH_same] at h
        cases h' : G.B p with
        | none => rfl
        | some w => rw [h'] at h; cases h
      · rw [lkH_ne z] at h; exact h
    have hN : ∀ {p : Addr} {u : HO}, H p = some u → (∀ o kvs, u ≠ .frz o (.dK kvs)) → upd H l (.dK kvs) p = some u := fun {p u} h n => by
      rw [upd_ne (fun z => by rw [z, hH] at h; cases h; exact n _ _ rfl)]; exact h
    cases z with
    | d x => exact At.tr tr _ _ hw
    | own xs =>
      obtain ⟨p, vs, rfl, h1, h2, h3, h4⟩ := hw
      exact ⟨p, vs, rfl, hN h1 (fun _ _ z => by cases z), AtL.tr tr _ _ h2, fN h3, bN h4⟩
    | bor xs =>
      obtain ⟨p, vs, rfl, h1, h2, h4⟩ := hw
      exact ⟨p, vs, rfl, hN h1 (fun _ _ z => by cases z), AtL.tr tr _ _ h2, bN h4⟩
    | cask => exact hw
    | raw u => exact hw
    | scr xs =>
      obtain ⟨a, h1, h2⟩ := hw
      exact ⟨a, h1, tr.sqL h2⟩
    | odk xs =>
      obtain ⟨p, vs, rfl, h1, h2, h3, h4⟩ := hw
      exact ⟨p, vs, rfl, by rw [upd_ne (nF h3)]; exact h1, AtKv.tr tr _ _ h2, fN h3, bN h4⟩
    | bdk xs =>
      obtain ⟨p, vs, rfl, h1, h2, h4⟩ := hw
      exact ⟨p, vs, rfl, (tr_unlock hH).d _ _ h1, AtKv.tr tr _ _ h2, bN h4⟩
    | olk p xs =>
      obtain ⟨_, _, rfl, h1, h2, h3, h4⟩ := hw
      exact ⟨_, rfl, rfl, by rw [upd_ne (nF h3)]; exact h1, AtKv.tr tr _ _ h2, fN h3, bN h4⟩
    | blk p xs =>
      obtain ⟨_, _, rfl, h1, h2, h4⟩ := hw
      have hne : (p ()).a ≠ l := fun z => by subst z; exact nl j _ q rfl ew
      exact ⟨_, rfl, rfl, by rw [upd_ne hne]; exact h1, AtKv.tr tr _ _ h2, bN h4⟩
    | ldk p xs =>
      obtain ⟨_, _, rfl, h1, h2⟩ := hw
      have hne : (p ()).a ≠ l := fun z => by subst z; exact nl j _ q rfl ew
      exact ⟨_, rfl, rfl, by rw [upd_ne hne]; exact h1, AtKv.tr tr _ _ h2⟩
    | exc a C d er =>
      obtain ⟨cn, arg⟩ := er
      cases arg with
      | none => exact hw
      | some p =>
        obtain ⟨f, x⟩ := p
        obtain ⟨e, dd, w, h1, h2, h3⟩ := hw
        exact ⟨e, dd, w, h1, by rw [upd_ne (fun z => by rw [z, hl] at h2; cases h2)]; exact h2, At.tr tr _ _ h3⟩
end
end DL

/-! ## dicts with numbers and texts as keys: d[k], k in d, d[k] = v, {k: v}, walks -/
namespace DL
open PySem PySem.Spec L2
def keyQ : Key → PyData → Bool
  | .inl i, .int j => decide (j = i)
  | .inr x, .str y => decide (y = x)
  | _, _ => false
def lkD : List (PyData × PyData) → Key → Option PyData
  | [], _ => none
  | (k', d) :: r, k => if keyQ k k' = true then some d else lkD r k
def putD (ks : List (PyData × PyData)) (k : Key) (d : PyData) : List (PyData × PyData) :=
  if (lkD ks k).isSome = true then ks.map (fun p => if keyQ k p.1 = true then (p.1, d) else p) else ks ++ [(keyD k, d)]
theorem keyQ_d (k k' : Key) : keyQ k (keyD k') = decide (k' = k) := by
  cases k <;> cases k' <;> simp [keyQ, keyD]
section
variable {K : PySem.W.Frag} {F : Hp}
theorem AtKv.lk : ∀ {kvs : List (Key × V)} {ks : List (PyData × PyData)} (k : Key), AtKv K F kvs ks → (lkD ks k = none ∧ valV kvs k = none) ∨ ∃ v d, lkD ks k = some d ∧ valV kvs k = some v ∧ At K F v d
  | _, _, k, .nil => .inl ⟨rfl, rfl⟩
  | _, _, k, .cons (k := k') (v := v) (d := d) h t => by
    unfold lkD
    by_cases e : k' = k
    · rw [keyQ_d, if_pos (decide_eq_true e), valV_pos (p := (k', v)) e]
      exact .inr ⟨v, d, rfl, rfl, h⟩
    · rw [keyQ_d, if_neg (by simp [e]), valV_neg (p := (k', v)) e]
      exact AtKv.lk k t
theorem AtKv.length : ∀ {kvs : List (Key × V)} {ks : List (PyData × PyData)}, AtKv K F kvs ks → kvs.length = ks.length
  | _, _, .nil => rfl
  | _, _, .cons _ t => by rw [List.length_cons, List.length_cons, AtKv.length t]
theorem AtKv.repl {v : V} {d : PyData} (h : At K F v d) (k : Key) : ∀ {kvs : List (Key × V)} {ks : List (PyData × PyData)}, AtKv K F kvs ks → AtKv K F (kvs.map fun kv => if kv.1 = k then (kv.1, v) else kv) (ks.map fun p => if keyQ k p.1 = true then (p.1, d) else p)
  | _, _, .nil => .nil
  | _, _, .cons (k := k') (v := v') (d := d') h' t => by
    rw [List.map_cons, List.map_cons]
    by_cases e : k' = k
    · rw [if_pos e, if_pos (by rw [keyQ_d]; exact decide_eq_true e)]
      exact .cons h (AtKv.repl h k t)
    · rw [if_neg e, if_neg (by rw [keyQ_d]; simp [e])]
      exact .cons h' (AtKv.repl h k t)
theorem AtKv.snoc {v : V} {d : PyData} (h : At K F v d) (k : Key) : ∀ {kvs : List (Key × V)} {ks : List (PyData × PyData)}, AtKv K F kvs ks → AtKv K F (kvs ++ [(k, v)]) (ks ++ [(keyD k, d)])
  | _, _, .nil => .cons h .nil
  | _, _, .cons h' t => .cons h' (AtKv.snoc h k t)
theorem AtKv.put {v : V} {d : PyData} (h : At K F v d) (k : Key) {kvs : List (Key × V)} {ks : List (PyData × PyData)} (a : AtKv K F kvs ks) : AtKv K F (putK kvs k v) (putD ks k d) := by
  unfold putK putD
  rw [valV_any]
  rcases AtKv.lk k a with ⟨e1, e2⟩ | ⟨v', d', e1, e2, _⟩
  · rw [e1, e2, if_neg (by simp), if_neg (by simp)]
    exact AtKv.snoc h k a
  · rw [e1, e2, if_pos (by simp), if_pos (by simp)]
    exact AtKv.repl h k a
theorem AtKv.get : ∀ {kvs : List (Key × V)} {ks : List (PyData × PyData)} {i : Nat} {p : PyData × PyData}, AtKv K F kvs ks → ks[i]? = some p → ∃ k v, kvs[i]? = some (k, v) ∧ p.1 = keyD k ∧ At K F v p.2
  | _, _, i, p, .nil, e => by simp at e
  | _, _, 0, p, .cons h _, e => by
    simp at e
    subst e
    exact ⟨_, _, rfl, rfl, h⟩
  | _, _, i + 1, p, .cons _ t, e => by
    obtain ⟨k, v, h1, h2⟩ := AtKv.get (i := i) t (by simpa using e)
    exact ⟨k, v, by simpa using h1, h2⟩
theorem at_key (k : Key) : At K F (kV k) (keyD k) := by
  cases k with
  | inl i => exact .int i
  | inr x => exact .str x
end
def DV.dic : DV → Option (List (PyData × PyData))
  | .d (.dict ks) => some ks
  | .odk ks => some ks
  | .bdk ks => some ks
  | .olk _ ks => some ks
  | .blk _ ks => some ks
  | .ldk _ ks => some ks
  | _ => none
theorem dic_of {G : Gm} {F H : Hp} {v : V} {x : DV} {ks : List (PyData × PyData)} (h : VOk G F H v x) (hf : Same F H) (e : x.dic = some ks) : ∃ l kvs, v = .ref l ∧ Rd H l (.dK kvs) ∧ AtKv G.K F kvs ks := by
  match x, e, h with
  | .d (.dict ks), e, h =>
    cases e
    cases (show At G.K F v (.dict _) from h) with
    | dct hs ha => exact ⟨_, _, rfl, rd_mono hf hs, ha⟩
  | .odk ks, e, h =>
    cases e
    obtain ⟨l, kvs, rfl, h1, h2, _⟩ := h
    exact ⟨l, kvs, rfl, .inl h1, h2⟩
  | .bdk ks, e, h =>
    cases e
    obtain ⟨l, kvs, rfl, h1, h2, _⟩ := h
    exact ⟨l, kvs, rfl, h1, h2⟩
  | .olk p ks, e, h =>
    cases e
    obtain ⟨_, _, rfl, h1, h2, _⟩ := h
    exact ⟨_, _, rfl, .inr ⟨_, h1⟩, h2⟩
  | .blk p ks, e, h =>
    cases e
    obtain ⟨_, _, rfl, h1, h2, _⟩ := h
    exact ⟨_, _, rfl, .inr ⟨_, h1⟩, h2⟩
  | .ldk p ks, e, h =>
    cases e
    obtain ⟨_, _, rfl, h1, h2⟩ := h
    exact ⟨_, _, rfl, .inr ⟨_, hf _ _ h1⟩, h2⟩
def DV.key : DV → Option Key
  | .d (.int i) => some (.inl i)
  | .d (.str x) => some (.inr x)
  | _ => none
theorem key_ofD {G : Gm} {F H : Hp} {v : V} {x : DV} {k : Key} (h : VOk G F H v x) (e : x.key = some k) : v = kV k := by
  match x, e, h with
  | .d (.int i), e, h => cases e; cases (show At G.K F v (.int i) from h); rfl
  | .d (.str i), e, h => cases e; cases (show At G.K F v (.str i) from h); rfl
/-- d[k] -/
def oDGet : D2 := fun x y R => match x.dic, y.key with
  | some ks, some k => (match lkD ks k with | some d => R (.d d) | none => False)
  | _, _ => False
/-- k in d -/
def oDIn (n : Bool) : D2 := fun y x R => match x.dic, y.key with
  | some ks, some k => R (.d (.bool (n != (lkD ks k).isSome)))
  | _, _ => False
section
variable {u u1 u2 u3 : Nat} {X : Cx} {W : WC} {a b c e : Expr} {es : List Expr} {pos p1 p2 : Pos} {ma mb me mi : ME} {mas : MA} {m : MS} {x : Str}
theorem de_dget (cx : CtxU X) (ha : DE X W a ma u1) (hb : DE X W b mb u2) (hs : NoSl b := by intro _ _; rfl) : DE X W (.Subscript a b pos) (mBin oDGet ma mb) (u1 + u2) :=
  ⟨PE.imp (pe_dget (by have := cx.un; omega) ha.pe hb.pe hs) fun σ H Q q => by
    obtain ⟨ex, G, F, δ, τ, ts, τ1, ts1, R, n, m, k⟩ := q
    refine ⟨ex, G, F, δ, τ, ts, τ1, ts1, _, n.fst, m, fun x hx v F1 H1 g1 => ?_⟩
    refine ⟨ex, G.up u1, F1, δ, τ, ts, _, _, _, n.after g1, hx, fun y hy u F2 H2 g2 => ?_⟩
    have e1 : Good (G.up (u1 + u2)) F2 (δ ++ τ ++ τ1 ++ [some x] ++ [some y]) (σ ++ ts ++ ts1 ++ [some v] ++ [some u]) H2 := by
      rw [up_up] at g2
      simpa only [List.append_assoc] using g2
    unfold oDGet at hy
    split at hy
    · rename_i ks kk ex ey
      obtain ⟨l, kvs, rfl, h1, h2⟩ := dic_of e1.pop.top e1.fh ex
      have hk := key_ofD e1.top ey
      subst hk
      rcases AtKv.lk kk h2 with ⟨q1, q2⟩ | ⟨w, d, q1, q2, q3⟩
      · rw [q1] at hy; exact hy.elim
      · rw [q1] at hy
        exact ⟨l, w, rfl, .inl ⟨kvs, kk, h1, rfl, q2.symm⟩, k _ hy _ F2 H2 (e1.pop.pop.pushD q3)⟩
    · exact hy.elim⟩
theorem din_lift {n : Bool} (σ : L2.St) (H : Hp) (Q : VK) (q : liftE X.K X.mg W (u1 + u2) (mBin (oDIn n) ma mb) σ H Q) :
    liftE X.K X.mg W u1 ma σ H fun y H1 => liftE X.K X.mg W u2 mb σ H1 fun x H2 => ∃ a o, x = .ref a ∧ DGet H2 a y o ∧ Q (.bl (n != o.isSome)) H2 := by
  obtain ⟨ex, G, F, δ, τ, ts, τ1, ts1, R, nw, m, k⟩ := q
  refine ⟨ex, G, F, δ, τ, ts, τ1, ts1, _, nw.fst, m, fun x hx v F1 H1 g1 => ?_⟩
  refine ⟨ex, G.up u1, F1, δ, τ, ts, _, _, _, nw.after g1, hx, fun y hy u F2 H2 g2 => ?_⟩
  have e1 : Good (G.up (u1 + u2)) F2 (δ ++ τ ++ τ1 ++ [some x] ++ [some y]) (σ ++ ts ++ ts1 ++ [some v] ++ [some u]) H2 := by
    rw [up_up] at g2
    simpa only [List.append_assoc] using g2
  unfold oDIn at hy
  split at hy
  · rename_i ks kk ex ey
    obtain ⟨l, kvs, rfl, h1, h2⟩ := dic_of e1.top e1.fh ex
    have hk := key_ofD e1.pop.top ey
    subst hk
    refine ⟨l, valV kvs kk, rfl, .inl ⟨kvs, kk, h1, rfl, rfl⟩, ?_⟩
    have es : (valV kvs kk).isSome = (lkD ks kk).isSome := by
      rcases AtKv.lk kk h2 with ⟨q1, q2⟩ | ⟨w, d, q1, q2, q3⟩ <;> rw [q1, q2] <;> rfl
    rw [es]
    exact k _ hy _ F2 H2 (e1.pop.pop.pushD (.bl _))
  · exact hy.elim
theorem de_din (cx : CtxU X) (ha : DE X W a ma u1) (hb : DE X W b mb u2) (hm : behindInMarks .In b = false := by rfl) : DE X W (.Compare a [.In] [b] pos) (mBin (oDIn false) ma mb) (u1 + u2) :=
  ⟨PE.imp (pe_cmp (pc_din (by have := cx.un; omega) ha.pe hb.pe) hm) fun σ H Q q => by
    have h := din_lift σ H Q q
    unfold tDIn
    simpa only [Bool.false_bne] using h⟩
theorem de_dnotin (cx : CtxU X) (ha : DE X W a ma u1) (hb : DE X W b mb u2) (hm : behindInMarks .NotIn b = false := by rfl) : DE X W (.Compare a [.NotIn] [b] pos) (mBin (oDIn true) ma mb) (u1 + u2) :=
  ⟨PE.imp (pe_cmp (pc_dnotin (by have := cx.un; omega) ha.pe hb.pe) hm) fun σ H Q q => by
    have h := din_lift σ H Q q
    unfold tDNotIn
    simpa only [Bool.true_bne] using h⟩
theorem dt_din (cx : CtxU X) (ha : DE X W a ma u1) (hb : DE X W b mb u2) (hm : behindInMarks .In b = false := by rfl) : DT X W (.Compare a [.In] [b] pos) (mB (mBin (oDIn false) ma mb)) (u1 + u2) :=
  ⟨PT.imp (pt_cmp (pc_din (by have := cx.un; omega) ha.pe hb.pe) hm) fun σ H Q q => by
    have h := din_lift σ H _ (liftT_of σ H Q q)
    unfold tB tDIn
    simpa only [Bool.false_bne] using h⟩
theorem dt_dnotin (cx : CtxU X) (ha : DE X W a ma u1) (hb : DE X W b mb u2) (hm : behindInMarks .NotIn b = false := by rfl) : DT X W (.Compare a [.NotIn] [b] pos) (mB (mBin (oDIn true) ma mb)) (u1 + u2) :=
  ⟨PT.imp (pt_cmp (pc_dnotin (by have := cx.un; omega) ha.pe hb.pe) hm) fun σ H Q q => by
    have h := din_lift σ H _ (liftT_of σ H Q q)
    unfold tB tDNotIn
    simpa only [Bool.true_bne] using h⟩
/-- d[k] = v, d one's own -/
def isOdkAt (δ : Env) (i : Nat) : Prop := match δ[i]? with
  | some (some (.odk _)) => True
  | _ => False
def mDPut (i : Nat) (mi me : ME) : MS := fun ex E δ => isOdkAt δ i ∧ me ex δ fun y => mi ex δ fun z => match δ[i]?, y.val, z.key with
  | some (some (.odk ks)), some d, some k => ks.length < sizeLine ∧ E.nx (δ.set i (some (.odk (putD ks k d))))
  | _, _, _ => False
theorem ds_dput {i : Nat} {idx : Expr} (cx : CtxU X) (hv : PE X (.Name x p1) (tVar i)) (hi : DE X W idx mi u2) (he : DE X W e me u1)
    (hs : swapsWith e (some (.Subscript (.Name x p1) idx p2)) pos.line X.env = pure false := by rfl) : DS X W (.Assign [.Subscript (.Name x p1) idx p2] e pos) (mDPut i mi me) (u1 + u2) :=
  ⟨PS.imp (ps_dput (by have := cx.un; omega) hv hi.pe he.pe hs) fun D σ H q => by
    obtain ⟨ex, G, F, δ, τ, ts, E, n, nb, eo, ho1, h⟩ := q
    obtain ⟨ks, eX⟩ : ∃ ks, δ[i]? = some (some (.odk ks)) := by
      unfold isOdkAt at ho1
      split at ho1
      · rename_i ks e; exact ⟨ks, e⟩
      · exact ho1.elim
    have hiL : i < δ.length := (List.getElem?_eq_some_iff.mp eX).1
    refine ⟨ex, G, F, δ, τ, ts, [], [], _, n.fst, h, fun y hy v F1 H1 g1 => ?_⟩
    obtain ⟨w0, ew0, hw0⟩ := n.g0.get (i := i) (dv := .odk ks) (by rw [List.getElem?_append_left hiL]; exact eX)
    obtain ⟨l, kvs0, rfl, _⟩ := hw0
    rw [List.getElem?_append_left (by have := n.l1; omega)] at ew0
    refine ⟨.ref l, ew0, ?_⟩
    refine ⟨ex, G.up u1, F1, δ, τ, ts, _, _, _, n.after (rs := [some y]) (vs := [some v]) g1, hy, fun z hz iv F2 H2 g2 => ?_⟩
    rw [up_up] at g2
    have g : Good (G.up (u1 + u2)) F2 (δ ++ τ ++ [some y] ++ [some z]) (σ ++ ts ++ [some v] ++ [some iv]) H2 := by simpa only [List.append_assoc, List.nil_append] using g2
    rw [eX] at hz
    cases hyv : y.val with
    | none => rw [hyv] at hz; exact hz.elim
    | some d =>
      cases hzk : z.key with
      | none => rw [hyv, hzk] at hz; exact hz.elim
      | some kk =>
        rw [hyv, hzk] at hz
        obtain ⟨hlen, hz⟩ := hz
        have hk := key_ofD g.top hzk
        subst hk
        obtain ⟨F3, s3, g3⟩ := fix_one (A := δ ++ τ) (A2 := []) (x := y) (ρ := σ ++ ts ++ [some v]) (by simpa using g.pop) hyv
        have g3' : Good (G.up (u1 + u2)) F3 (δ ++ τ ++ [some (.d d)]) (σ ++ ts ++ [some v]) H2 := g3
        have hd : At G.K F3 v d := g3'.top
        have g4 := g3'.pop
        obtain ⟨w, ew, l', kvs, rfl, q1, q2, _⟩ := g4.get (i := i) (dv := .odk ks) (by rw [List.getElem?_append_left hiL]; exact eX)
        rw [List.getElem?_append_left (by have := n.l1; omega), ew0] at ew
        cases ew
        refine ⟨l, _, rfl, DPut.k q1 (by rw [q2.length]; exact hlen), ?_⟩
        have g5 := g4.writeK nb (n := i) (xs := ks) (ys := putD ks kk d) (l := l) (kvs := putK kvs kk v) (by rw [List.getElem?_append_left hiL]; exact eX) (by rw [List.getElem?_append_left (by have := n.l1; omega)]; exact ew0) (AtKv.put hd kk q2)
        rw [List.set_append_left _ _ hiL] at g5
        refine eo.nx _ hz _ σ F3 _ (Nat.le_refl _) (by simpa using n.l1) ?_ g5
        rw [← List.set_append_left _ _ hiL]
        exact noBor_set nb rfl⟩
/-- {k: v} -/
def mDisp1 (mk mv : ME) : ME := fun ex δ R => mk ex δ fun z => mv ex δ fun y => match z.key, y.val with
  | some k, some d => R (.odk [(keyD k, d)])
  | _, _ => False
theorem de_disp1 {kx vx : Expr} {mk mv : ME} (hk : DE X W kx mk u1) (hv : DE X W vx mv u2) : DE X W (.Dict [some kx] [vx] pos) (mDisp1 mk mv) (u1 + u2) :=
  ⟨PE.imp (pe_disp (pps_cons hk.pe hv.pe pps_nil) (by rfl) (by rfl) (fun z => by cases z) (by show 1 ≤ 15; decide)) fun σ H Q q => by
    obtain ⟨ex, G, F, δ, τ, ts, τ1, ts1, R, n, m, k⟩ := q
    intro p hp
    have gp : Good G F (δ ++ τ ++ τ1 ++ [some (.odk [])]) (σ ++ ts ++ ts1 ++ [some (.ref p)]) (upd H p (.dK [])) := n.good.newK hp .nil
    have n1 : Now X.K X.mg W (u1 + u2) ex G F δ σ τ ts (τ1 ++ [some (.odk [])]) (ts1 ++ [some (.ref p)]) (upd H p (.dK [])) := ⟨n.k, n.l1, n.l2, by simpa only [List.append_assoc] using gp, n.link, n.ck⟩
    refine ⟨ex, G, F, δ, τ, ts, _, _, _, n1.fst, m, fun z hz zv F1 H1 g1 => ?_⟩
    refine ⟨ex, G.up u1, F1, δ, τ, ts, _, _, _, n1.after g1, hz, fun y hy yv F2 H2 g2 => ?_⟩
    have e1 : Good (G.up (u1 + u2)) F2 (δ ++ τ ++ τ1 ++ [some (.odk [])] ++ [some z] ++ [some y]) (σ ++ ts ++ ts1 ++ [some (.ref p)] ++ [some zv] ++ [some yv]) H2 := by
      rw [up_up] at g2
      simpa only [List.append_assoc] using g2
    have hy : (match z.key, y.val with | some k, some d => R (.odk [(keyD k, d)]) | _, _ => False) := hy
    split at hy
    · rename_i kk d ez ey
      have hkk := key_ofD e1.pop.top ez
      subst hkk
      obtain ⟨F3, s3, g3⟩ := fix_one (A := δ ++ τ ++ τ1 ++ [some (.odk [])] ++ [some z]) (A2 := []) (x := y) (ρ := σ ++ ts ++ ts1 ++ [some (.ref p)] ++ [some (kV kk)] ++ [some yv]) (by simpa using e1) ey
      have g3' : Good (G.up (u1 + u2)) F3 (δ ++ τ ++ τ1 ++ [some (.odk [])] ++ [some z] ++ [some (.d d)]) (σ ++ ts ++ ts1 ++ [some (.ref p)] ++ [some (kV kk)] ++ [some yv]) H2 := g3
      have hd : At G.K F3 yv d := g3'.top
      have g4 := g3'.pop.pop
      obtain ⟨l, kvs, e2, q1, q2, q3, q4⟩ := g4.top
      cases e2
      cases q2
      refine ⟨q1, [(kk, yv)], rfl, by show 1 ≤ 15; decide, ?_⟩
      have g5 := g4.writeG (n := (δ ++ τ ++ τ1).length) (x := .odk []) (y := .odk [(keyD kk, d)]) (l := p) (o := .dK [(kk, yv)]) rfl rfl (fun j w e b => ?_) (by simp) (by
        have hl : (δ ++ τ ++ τ1).length = (σ ++ ts ++ ts1).length := by have := g4.len; simp at this ⊢; omega
        rw [hl]; simp) (fun H' h1 h2 h3 => ⟨p, _, rfl, h1, .cons hd .nil, h2, h3⟩)
      · rw [show (δ ++ τ ++ τ1 ++ [some (DV.odk [])]).set (δ ++ τ ++ τ1).length (some (.odk [(keyD kk, d)])) = δ ++ τ ++ τ1 ++ [some (.odk [(keyD kk, d)])] by rw [List.set_append_right _ _ (Nat.le_refl _), Nat.sub_self]; rfl] at g5
        exact k _ hy _ F3 _ g5
      · -- nothing else stands for the new dict
        intro ew
        obtain ⟨w2, ew2, hw2⟩ := g4.sl j w e
        rw [ew] at ew2
        cases ew2
        have hj : j < (δ ++ τ ++ τ1).length ∨ j = (δ ++ τ ++ τ1).length := by
          have := (List.getElem?_eq_some_iff.mp e).1
          simp at this ⊢; omega
        rcases hj with hj | hj
        · have e0 : (δ ++ τ ++ τ1)[j]? = some (some w) := by rw [List.getElem?_append_left hj] at e; exact e
          obtain ⟨w3, ew3, hw3⟩ := n.good.sl j w e0
          have hl : (δ ++ τ ++ τ1).length = (σ ++ ts ++ ts1).length := by have := n.good.len; exact this
          rw [List.getElem?_append_left (by omega), ew3] at ew
          cases ew
          obtain ⟨l3, o3, e3, h3, _⟩ := bor_at hw3 (by rw [b]; simp)
          cases e3
          rw [hp] at h3; cases h3
        · subst hj
          simp at e
          subst e
          cases b
    · exact hy.elim⟩
/-! ### walks -/
def itemsD (ks : List (PyData × PyData)) : List PyData := ks.map fun p => .tuple [p.1, p.2]
def keysD (ks : List (PyData × PyData)) : List PyData := ks.map (·.1)
def DV.wlk : DV → Option ((Unit → LkP) × List (PyData × PyData))
  | .blk p ks => some (p, ks)
  | .ldk p ks => some (p, ks)
  | _ => none
theorem wlk_of {G : Gm} {F H : Hp} {v : V} {x : DV} {p : Unit → LkP} {ks : List (PyData × PyData)} (h : VOk G F H v x) (hf : Same F H) (e : x.wlk = some (p, ks)) : v = .ref (p ()).a ∧ H (p ()).a = some (.frz (p ()).o (.dK (p ()).k)) ∧ AtKv G.K F (p ()).k ks := by
  match x, e, h with
  | .blk p ks, e, h =>
    cases e
    obtain ⟨_, _, rfl, h1, h2, _⟩ := h
    exact ⟨rfl, h1, h2⟩
  | .ldk p ks, e, h =>
    cases e
    obtain ⟨_, _, rfl, h1, h2⟩ := h
    exact ⟨rfl, hf _ _ h1, h2⟩
def mIItems (me : ME) : MI := fun ex δ R => me ex δ fun x => match x.wlk with
  | some (_, ks) => R ⟨[x], itemsD ks⟩
  | none => False
def mIKeys (me : ME) : MI := fun ex δ R => me ex δ fun x => match x.wlk with
  | some (_, ks) => R ⟨[x], keysD ks⟩
  | none => False
theorem di_keys {tg : Expr} (h : DE X W e me u) : DI X W tg e (mIKeys me) u := ⟨PI.imp (pi_keys h.pe) fun σ H Q q => by
  obtain ⟨ex, G, F, δ, τ, ts, τ1, ts1, R, n, m, k⟩ := q
  refine ⟨ex, G, F, δ, τ, ts, τ1, ts1, _, n, m, fun x hx v F1 H1 g1 => ?_⟩
  split at hx
  · rename_i p ks e
    obtain ⟨rfl, hs, ha⟩ := wlk_of g1.top g1.fh e
    refine ⟨_, _, rfl, .inl ⟨_, hs, k _ hx [.ref (p ()).a] F1 H1 _ rfl (by simpa using g1) fun b i F2 A B A' B' H2 hA hB g2 => ?_⟩⟩
    have ht := sub1 (g2.cut hB)
    obtain ⟨_, hs', ha'⟩ := wlk_of ht g2.fh e
    have hl := ha'.length
    refine ⟨fun hi => ⟨hs', by rw [hl]; simpa [keysD] using hi⟩, fun d hd => ?_⟩
    unfold keysD at hd
    rw [List.getElem?_map] at hd
    cases hq : ks[i]? with
    | none => rw [hq] at hd; cases hd
    | some q =>
      rw [hq] at hd
      cases hd
      obtain ⟨kk, w, e1, e2, e3⟩ := ha'.get hq
      refine ⟨⟨hs', (List.getElem?_eq_some_iff.mp e1).1⟩, fun y H3 hy => ?_⟩
      obtain ⟨rfl, k', v', e4, rfl⟩ := hy
      rw [e1] at e4
      cases e4
      dsimp only
      rw [e2]
      exact ⟨F2, by simpa only [List.append_assoc] using g2.pushD (at_key kk)⟩
  · exact hx.elim⟩
theorem di_items {elts : List Expr} {kk : Nat} {tpos apos cpos : Pos} (h : DE X W e me u) (hbase : attributeBase e "items" X.env (eval e X.env) = eval e X.env := by rfl) (hline : (apos.endLine == cpos.line) = true := by rfl) :
    DI X W (.Tuple elts kk tpos) (.Call (.Attribute e "items" apos) [] [] cpos) (mIItems me) u := ⟨PI.imp (pi_items h.pe hbase hline) fun σ H Q q => by
  obtain ⟨ex, G, F, δ, τ, ts, τ1, ts1, R, n, m, k⟩ := q
  refine ⟨ex, G, F, δ, τ, ts, τ1, ts1, _, n, m, fun x hx v F1 H1 g1 => ?_⟩
  split at hx
  · rename_i p ks e
    obtain ⟨rfl, hs, ha⟩ := wlk_of g1.top g1.fh e
    refine ⟨_, _, _, rfl, hs, k _ hx [.ref (p ()).a] F1 H1 _ rfl (by simpa using g1) fun b i F2 A B A' B' H2 hA hB g2 => ?_⟩
    have ht := sub1 (g2.cut hB)
    obtain ⟨_, hs', ha'⟩ := wlk_of ht g2.fh e
    have hl := ha'.length
    refine ⟨fun hi => ⟨hs', by rw [hl]; simpa [itemsD] using hi⟩, fun d hd => ?_⟩
    unfold itemsD at hd
    rw [List.getElem?_map] at hd
    cases hq : ks[i]? with
    | none => rw [hq] at hd; cases hd
    | some q =>
      rw [hq] at hd
      cases hd
      obtain ⟨kk, w, e1, e2, e3⟩ := ha'.get hq
      refine ⟨⟨hs', (List.getElem?_eq_some_iff.mp e1).1⟩, fun y H3 hy => ?_⟩
      obtain ⟨T, k', v', e4, rfl, hT, rfl⟩ := hy
      rw [e1] at e4
      cases e4
      dsimp only
      rw [e2]
      exact ⟨_, by simpa only [List.append_assoc] using g2.newT hT (.cons (at_key kk) (.cons e3 .nil))⟩
  · exact hx.elim⟩
/-- the dict in slot i is locked while e is evaluated -/
def mLck (i : Nat) (m : ME) : ME := fun _ δ R => match δ[i]? with
  | some (some (.odk ks)) => ∀ p : Unit → LkP, m ex0 (δ.set i (some (.olk p ks))) fun r => r.isLk = false ∧ R r
  | some (some (.d (.dict ks))) => ∀ p : Unit → LkP, m ex0 (δ.set i (some (.ldk p ks))) fun r => r.isLk = false ∧ R r
  | some (some (.blk _ _)) => m ex0 δ R
  | some (some (.ldk _ _)) => m ex0 δ R
  | _ => False
theorem PE.or {X : Cx} {e : Expr} {t t' : TE} (h : PE X e t) (h' : PE X e t') : PE X e fun σ H Q => t σ H Q ∨ t' σ H Q := ⟨fun pins s σ H Q I q => by
  rcases q with q | q
  · exact h.run pins s σ H Q I q
  · exact h'.run pins s σ H Q I q⟩
theorem set_back {A : Env} {i : Nat} {x : Option DV} (h : A[i]? = some x) : A.set i x = A := by
  refine List.ext_getElem? fun j => ?_
  by_cases q : j = i
  · subst q
    rw [List.getElem?_set_self (List.getElem?_eq_some_iff.mp h).1, h]
  · rw [List.getElem?_set_ne (fun z => q z.symm)]
theorem set3 {A B C : Env} {i : Nat} {x : Option DV} (hi : i < A.length) : (A ++ B ++ C).set i x = A.set i x ++ B ++ C := by
  rw [List.append_assoc, List.set_append_left _ _ hi, List.append_assoc]
theorem lck_lift (i : Nat) (σ : L2.St) (H : Hp) (Q : VK) (q : liftE X.K X.mg W u (mLck i me) σ H Q) : tLockE (liftE X.K X.mg W u me) σ H Q ∨ liftE X.K X.mg W u me σ H Q := by
  obtain ⟨ex, G, F, δ, τ, ts, τ1, ts1, R, n, m, k⟩ := q
  unfold mLck at m
  have lk0 : ∀ {G' : Gm}, Link X.K X.mg W u G' τ ts ex0 := fun _ _ _ _ _ _ _ _ _ _ _ _ _ _ z => z.elim
  have hT : ∀ {j : Nat}, (δ ++ τ ++ τ1 : Env)[j]? = (δ ++ τ ++ τ1)[j]? := rfl
  split at m
  · -- one's own
    rename_i ks e0
    have hi : i < δ.length := (List.getElem?_eq_some_iff.mp e0).1
    have e1 : (δ ++ τ ++ τ1)[i]? = some (some (.odk ks)) := by rw [List.append_assoc, List.getElem?_append_left hi]; exact e0
    obtain ⟨v, ev, hv⟩ := n.good.get e1
    obtain ⟨l, kvs, rfl, h1, h2, h3, h4⟩ := hv
    have hL : (δ ++ τ ++ τ1).length = (σ ++ ts ++ ts1).length := n.good.len
    refine .inl ⟨l, _, h1, True.intro, fun od => ?_⟩
    have g1 := n.good.lockO e1 ev h1 od
    rw [set3 hi] at g1
    refine ⟨ex0, G, F, δ.set i (some (.olk (lkP l od kvs) ks)), τ, ts, τ1, ts1, _, ⟨n.k, by simpa using n.l1, n.l2, g1, lk0, n.ck⟩, m (lkP l od kvs), fun r hr v F2 H2 g2 => ?_⟩
    obtain ⟨hr1, hr2⟩ := hr
    have e2 : (δ.set i (some (.olk (lkP l od kvs) ks)) ++ τ ++ τ1 ++ [some r])[i]? = some (some (.olk (lkP l od kvs) ks)) := by
      rw [List.append_assoc, List.append_assoc, List.getElem?_append_left (by simpa using hi), List.getElem?_set_self hi]
    obtain ⟨w, ew, hw⟩ := g2.get e2
    obtain ⟨_, _, rfl, q1, q2, q3, q4⟩ := hw
    refine ⟨q1, ?_⟩
    have g3 := g2.unlockO (o := od) (kvs := kvs) e2 ew q1 (fun j z hj ez hz => ?_)
    · rw [List.set_append_left _ _ (by simp; omega), set3 (by simpa using hi), List.set_set, set_back e0] at g3
      exact k r hr2 v F2 _ g3
    · intro es
      rcases Nat.lt_or_ge j (δ ++ τ ++ τ1).length with hj2 | hj2
      · have ez2 : (δ ++ τ ++ τ1)[j]? = some (some z) := by
          rw [List.getElem?_append_left (by simpa using hj2), ← set3 hi, List.getElem?_set_ne (fun q => hj q.symm)] at ez
          exact ez
        obtain ⟨w2, ew2, hw2⟩ := n.good.sl j z ez2
        rw [List.getElem?_append_left (by rw [← hL]; exact hj2), ew2] at es
        cases es
        cases z with
        | olk p xs =>
          obtain ⟨_, _, r0, r1, _⟩ := hw2
          have r0 := V.ref.inj r0
          have r0 : l = (p ()).a := r0
          rw [← r0, h1] at r1; cases r1
        | blk p xs =>
          obtain ⟨_, _, r0, r1, _⟩ := hw2
          have r0 := V.ref.inj r0
          have r0 : l = (p ()).a := r0
          rw [← r0, h1] at r1; cases r1
        | ldk p xs =>
          obtain ⟨_, _, r0, r1, _⟩ := hw2
          have r0 := V.ref.inj r0
          have r0 : l = (p ()).a := r0
          rw [← r0, h3] at r1; cases r1
        | _ => cases hz
      · have hj3 : j = (δ ++ τ ++ τ1).length := by
          have := (List.getElem?_eq_some_iff.mp ez).1
          simp at this hj2 ⊢; omega
        rw [List.getElem?_append_right (by simp; simp at hj2; omega)] at ez
        have hj4 : j - (δ.set i (some (DV.olk (lkP l od kvs) ks)) ++ τ ++ τ1).length = 0 := by simp at hj3 ⊢; omega
        rw [hj4] at ez
        cases ez
        rw [hr1] at hz; cases hz
  · -- fixed data
    rename_i ks e0
    have hi : i < δ.length := (List.getElem?_eq_some_iff.mp e0).1
    have e1 : (δ ++ τ ++ τ1)[i]? = some (some (.d (.dict ks))) := by rw [List.append_assoc, List.getElem?_append_left hi]; exact e0
    obtain ⟨v, ev, hv⟩ := n.good.get e1
    have hL : (δ ++ τ ++ τ1).length = (σ ++ ts ++ ts1).length := n.good.len
    cases (show At G.K F v (.dict ks) from hv) with
    | @dct l kvs _ hs ha =>
    rcases hs with hs | ⟨od, hs⟩
    · have hH := n.good.fh _ _ hs
      refine .inl ⟨l, _, hH, True.intro, fun od => ?_⟩
      have g1 := n.good.lockF hs od
      have g1 := g1.reslot (y := .ldk (lkP l od kvs) ks) e1 ev ⟨_, rfl, rfl, upd_same, AtKv.tr (tr_lock hs) _ _ ha⟩ (fun z => by cases z)
      rw [set3 hi] at g1
      refine ⟨ex0, G.lk l (.frz od (.dK kvs)), _, δ.set i (some (.ldk (lkP l od kvs) ks)), τ, ts, τ1, ts1, _, ⟨n.k, by simpa using n.l1, n.l2, g1, lk0, n.ck⟩, m (lkP l od kvs), fun r hr v F2 H2 g2 => ?_⟩
      obtain ⟨hr1, hr2⟩ := hr
      have e2 : (δ.set i (some (.ldk (lkP l od kvs) ks)) ++ τ ++ τ1 ++ [some r])[i]? = some (some (.ldk (lkP l od kvs) ks)) := by
        rw [List.append_assoc, List.append_assoc, List.getElem?_append_left (by simpa using hi), List.getElem?_set_self hi]
      obtain ⟨w, ew, hw⟩ := g2.get e2
      obtain ⟨_, _, rfl, q1, q2⟩ := hw
      replace q1 : F2 l = some (.frz od (.dK kvs)) := q1
      refine ⟨g2.fh _ _ q1, ?_⟩
      have g3 := g2.reslot (y := .d (.dict ks)) e2 ew (.dct (.inr ⟨_, q1⟩) q2) (fun z => by cases z)
      rw [List.set_append_left _ _ (by simp; omega), set3 (by simpa using hi), List.set_set, set_back e0] at g3
      have g4 := Good.unlockF (G := G.up u) (l := l) (o := od) (kvs := kvs) g3 n.good.g.cb q1 (fun z hz => ?_) (fun z hz => ?_) (fun j z ez hz => ?_)
      · exact k r hr2 v _ _ g4
      · have := n.good.f0 _ _ hz
        rw [hs] at this; exact (Option.some.inj this).symm
      · have cl : ¬ G.C l := fun c => by have := n.good.cf l c; rw [hs] at this; cases this
        have := n.good.bh _ _ cl hz
        rw [hH] at this; exact (Option.some.inj this).symm
      · intro es
        rcases Nat.lt_or_ge j (δ ++ τ ++ τ1).length with hj2 | hj2
        · rw [List.getElem?_append_left hj2] at ez
          obtain ⟨w2, ew2, hw2⟩ := n.good.sl j z ez
          rw [List.getElem?_append_left (by rw [← hL]; exact hj2), ew2] at es
          cases es
          cases z with
          | olk p xs =>
            obtain ⟨_, _, r0, r1, _⟩ := hw2
            have r0 : l = (p ()).a := V.ref.inj r0
            rw [← r0, hH] at r1; cases r1
          | blk p xs =>
            obtain ⟨_, _, r0, r1, _⟩ := hw2
            have r0 : l = (p ()).a := V.ref.inj r0
            rw [← r0, hH] at r1; cases r1
          | ldk p xs =>
            obtain ⟨_, _, r0, r1, _⟩ := hw2
            have r0 : l = (p ()).a := V.ref.inj r0
            rw [← r0, hs] at r1; cases r1
          | _ => cases hz
        · have hj3 : j = (δ ++ τ ++ τ1).length := by
            have := (List.getElem?_eq_some_iff.mp ez).1
            simp at this hj2 ⊢; omega
          rw [List.getElem?_append_right hj2, hj3, Nat.sub_self] at ez
          cases ez
          rw [hr1] at hz; cases hz
    · -- it is locked already
      have g1 := n.good.reslot (y := .ldk (lkP l od kvs) ks) e1 ev ⟨_, rfl, rfl, hs, ha⟩ (fun z => by cases z)
      rw [set3 hi] at g1
      refine .inr ⟨ex0, G, F, δ.set i (some (.ldk (lkP l od kvs) ks)), τ, ts, τ1, ts1, _, ⟨n.k, by simpa using n.l1, n.l2, g1, lk0, n.ck⟩, m (lkP l od kvs), fun r hr v F2 H2 g2 => ?_⟩
      obtain ⟨hr1, hr2⟩ := hr
      have e2 : (δ.set i (some (.ldk (lkP l od kvs) ks)) ++ τ ++ τ1 ++ [some r])[i]? = some (some (.ldk (lkP l od kvs) ks)) := by
        rw [List.append_assoc, List.append_assoc, List.getElem?_append_left (by simpa using hi), List.getElem?_set_self hi]
      obtain ⟨w, ew, hw⟩ := g2.get e2
      obtain ⟨_, _, rfl, q1, q2⟩ := hw
      have g3 := g2.reslot (y := .d (.dict ks)) e2 ew (.dct (.inr ⟨_, q1⟩) q2) (fun z => by cases z)
      rw [List.set_append_left _ _ (by simp; omega), set3 (by simpa using hi), List.set_set, set_back e0] at g3
      exact k r hr2 v _ _ g3
  · exact .inr ⟨ex0, G, F, δ, τ, ts, τ1, ts1, R, ⟨n.k, n.l1, n.l2, n.good, lk0, n.ck⟩, m, k⟩
  · exact .inr ⟨ex0, G, F, δ, τ, ts, τ1, ts1, R, ⟨n.k, n.l1, n.l2, n.good, lk0, n.ck⟩, m, k⟩
  · exact m.elim
theorem de_lck (i : Nat) (h : DE X W e me u) : DE X W e (mLck i me) u := ⟨PE.imp (PE.or (pe_lock h.pe) h.pe) fun σ H Q q => lck_lift i σ H Q q⟩
theorem PS.or {X : Cx} {e : Stmt} {t t' : TS} (h : PS X e t) (h' : PS X e t') : PS X e fun D σ H => t D σ H ∨ t' D σ H := ⟨fun pins s σ H D I q => by
  rcases q with q | q
  · exact h.run pins s σ H D I q
  · exact h'.run pins s σ H D I q⟩
variable {tg iter elt : Expr} {ifs : List Expr} {scope : Scope} {own : List (Str × Nat)} {tt : MT} {te : ME} {ut ue : Nat} {dom : List Nat} {mi : MI}
/-- y = [.. for .. in the dict in slot j ..] -/
theorem ds_setLcK (j : Nat) {i : Nat} {y : Str} {py spos : Pos} {g : MG} (hc : X.calm = true) (hN : X.N.Nodup) (hy : X.N[i]? = some y) (hyl : X.env.scope.names.lookup y = some .local)
    (hsw : swapsWith (.ListComp elt [⟨tg, iter, ifs, 0⟩] scope pos) (some (.Name y py)) spos.line X.env = pure true) (hi : DI X W tg iter mi u1) (ok : BlkOk X.N X.env.scope scope own) (hdom : ∀ j ∈ dom, j ∈ own.map (·.2))
    (hg : ∀ (s : Shared) (H : Hp) (C : Addr) (cl : List (Str × Addr)) (fp : List Addr), DG (X.blk s H scope (compEnvC scope cl C X.env) fp) tg dom g)
    (ht : ∀ (s : Shared) (H : Hp) (C : Addr) (cl : List (Str × Addr)) (fp : List Addr), DTs (X.blk s H scope (compEnvC scope cl C X.env) fp) (W0 W) ifs tt ut)
    (he : ∀ (s : Shared) (H : Hp) (C : Addr) (cl : List (Str × Addr)) (fp : List Addr), DE (X.blk s H scope (compEnvC scope cl C X.env) fp) (W0 W) elt te ue) (hut : ut = 0 := by rfl) (hue : ue = 0 := by rfl) (hs : ∀ x, foldedSetIterable iter X.env x = pure x := by intro _; rfl) :
    DS X W (.Assign [.Name y py] (.ListComp elt [⟨tg, iter, ifs, 0⟩] scope pos) spos) (mAsg (mLck j (mLc mi g tt te (own.map (·.2)))) (gN i)) u1 := by
  have base := ps_setLc (X := X) (spos := spos) (pos := pos) (te := liftE X.K X.mg (W0 W) ue te) (tt := liftT X.K X.mg (W0 W) ut tt) (g := liftG X.K dom g) hc hN hy hyl hsw hi.pi ok (fun s H C cl fp => (hg s H C cl fp).pg) (fun s H C cl fp => (ht s H C cl fp).pts) (fun s H C cl fp => (he s H C cl fp).pe) hs
  have up : ∀ (σ : L2.St) (H : Hp) (Q : VK), liftE X.K X.mg W u1 (mLc mi g tt te (own.map (·.2))) σ H Q → tLc (liftI X.K X.mg W u1 mi) (liftG X.K dom g) (liftT X.K X.mg (W0 W) ut tt) (liftE X.K X.mg (W0 W) ue te) (own.map (·.2)) σ H Q := fun σ H Q q => by
    obtain ⟨ex, G, F, δ, τ, ts, τ1, ts1, R, n, m, k⟩ := q
    exact lc_lift (X := X) (own := own) (u1 := u1) (u3 := 0) (ut := ut) (ue := ue) hdom n m k fun it h => ⟨by rw [hut, hue, Nat.mul_zero]; exact Nat.le_refl _, h⟩
  refine ⟨PS.imp (PS.or (ps_lock base) base) fun D σ H q => ?_⟩
  have h := set_lift D σ H q
  rcases lck_lift j σ H _ h with ⟨d, uo, h1, h2, h3⟩ | h
  · exact .inl ⟨d, uo, h1, h2, fun od => up σ _ _ (h3 od)⟩
  · exact .inr (up σ _ _ h)
end
section
variable {ks : List (PyData × PyData)} {p : Unit → LkP} {i : Int} {x : Str}
theorem seen_k : DV.seen (.odk ks) = .bdk ks := rfl
theorem seen_bk : DV.seen (.bdk ks) = .bdk ks := rfl
theorem seen_lk : DV.seen (.olk p ks) = .blk p ks := rfl
theorem seen_bl : DV.seen (.blk p ks) = .blk p ks := rfl
theorem seen_ld : DV.seen (.ldk p ks) = .ldk p ks := rfl
theorem fix_k : DV.fix (.odk ks) = .d (.dict ks) := rfl
theorem fix_bk : DV.fix (.bdk ks) = .d (.dict ks) := rfl
theorem isBor_k : DV.isBor (.odk ks) = false := rfl
theorem isBor_bk : DV.isBor (.bdk ks) = true := rfl
theorem isBor_ld : DV.isBor (.ldk p ks) = false := rfl
theorem dic_d : DV.dic (.d (.dict ks)) = some ks := rfl
theorem dic_k : DV.dic (.odk ks) = some ks := rfl
theorem dic_bk : DV.dic (.bdk ks) = some ks := rfl
theorem dic_bl : DV.dic (.blk p ks) = some ks := rfl
theorem dic_ld : DV.dic (.ldk p ks) = some ks := rfl
theorem key_i : DV.key (.d (.int i)) = some (.inl i) := rfl
theorem key_s : DV.key (.d (.str x)) = some (.inr x) := rfl
theorem wlk_b : DV.wlk (.blk p ks) = some (p, ks) := rfl
theorem wlk_l : DV.wlk (.ldk p ks) = some (p, ks) := rfl
theorem isLk_d {d : PyData} : DV.isLk (.d d) = false := rfl
theorem isLk_o {xs : List PyData} : DV.isLk (.own xs) = false := rfl
theorem isOdk_0 {δ : Env} : isOdkAt (some (.odk ks) :: δ) 0 = True := rfl
theorem isOdk_s {y : Option DV} {n : Nat} {δ : Env} : isOdkAt (y :: δ) (n + 1) = isOdkAt δ n := by unfold isOdkAt; rw [List.getElem?_cons_succ]
/-- dicts of stones -/
def dctN (l : List (Nat × PyData)) : List (PyData × PyData) := l.map fun p => (.int (p.1 : Nat), p.2)
theorem lk_dctN {l : List (Nat × PyData)} {k : Nat} : lkD (dctN l) (.inl (k : Nat)) = (l.find? fun p => decide (p.1 = k)).map (·.2) := by
  induction l with
  | nil => rfl
  | cons a l ih =>
    have e : keyQ (.inl ((k : Nat) : Int)) (.int ((a.1 : Nat) : Int)) = decide (a.1 = k) := by
      show decide (((a.1 : Nat) : Int) = (k : Nat)) = _
      exact decide_eq_decide.mpr ⟨fun h => by omega, fun h => by omega⟩
    show (if keyQ (.inl ((k : Nat) : Int)) (.int ((a.1 : Nat) : Int)) = true then some a.2 else lkD (dctN l) (.inl (k : Nat))) = _
    rw [e, List.find?_cons, ih]
    by_cases h : a.1 = k <;> simp [h]
theorem put_dctN {l : List (Nat × PyData)} {k : Nat} {d : PyData} (h : ∀ p ∈ l, p.1 ≠ k) : putD (dctN l) (.inl (k : Nat)) d = dctN (l ++ [(k, d)]) := by
  have e : lkD (dctN l) (.inl (k : Nat)) = none := by
    rw [lk_dctN, List.find?_eq_none.mpr (fun p hp => by simpa using h p hp)]; rfl
  unfold putD
  rw [e, if_neg (by simp)]
  unfold dctN
  rw [List.map_append]
  rfl
end
end DL

namespace DL
open PySem PySem.Spec L2
/-! ## a def that calls itself: nothing is promised without fuel -/
theorem DFn.void {P : Program} {w : World} {K : PySem.W.Frag} {mg : Str → Option Value} {base : Heap} {x qual : Str} {st : Stmt} {f : Addr} {fd : FuncData} {ps : List Str} {k u : Nat} {mf : MF} {CK : CKT} (hm : mg x = some (.ref f)) (T : L2.Fun K x qual st f fd) (hb : Binds K fd ps [])
    (z : ∀ as R ex, ¬ mf as R ex) : DFn P w K mg base CK x k u ps.length mf := by
  refine ⟨f, fd, ps, hm, T.kp, hb, rfl, ⟨fun vs H Q E q => q.1, fun A outer s H args us vs Q E hg hr he hb' hv q => ?_⟩⟩
  obtain ⟨_, _, _, _, _, _, _, _, _, _, _, h, _⟩ := q
  exact absurd h (z _ _ _)
end DL

namespace DL
open PySem PySem.Spec L2 PySem.W
/-! ## sorted(tuple of ints) -/
def rSortedTI (K : Frag) : List V → Hp → VK → Prop := fun vs H Q => ∃ (a : Addr) (ns : List Int), vs = [.ref a] ∧ SqT K H a (ns.map V.int) ∧
  ∀ (ns' : List Int) (p : Addr), ns'.Perm ns → ns'.Pairwise (· ≤ ·) → H p = none → Q (.ref p) (upd H p (.lst (ns'.map V.int)))
theorem cr_sortedTI {X : Cx} : CallR X (.builtin "sorted") (rSortedTI X.K) := by
  intro pins s σ H vs us Q I r h
  obtain ⟨a, ns, rfl, hs, q⟩ := h
  obtain ⟨its, rv, ⟨o, ho, hc, n, hd⟩, hz⟩ := I.tuple hs
  rw [Vals.ref1 r]
  have hl : its.length ≤ sizeLine := by rw [← rv.length]; exact hz
  have hS : PyProof.Rows.IntsAre its ns := rv.ints
  refine Calls.call_function_entry PyProof.Rows.kind_sorted PyProof.Rows.plain_sorted PyProof.Rows.entry_sorted (PyProof.Rows.args_sorted1 _) ?_
  unfold Builtin.«sorted»
  refine wpAny_bind (m := checkCount "sorted" 1 1 _) (wpAny_pure ?_)
  refine wpAny_bind (wpAny_collect_seq a (.inr rfl) ho hc hd (fun h' hk => ?_) (by simpa using hl))
  have I1 : Inv X pins σ H { s with heap := h', toks := s.toks } := I.kept hk
  refine wpAny_bind (wpAny_newList ?_ (by simpa using hl))
  have hoL : (h'.push (PyProof.Rows.seqObj "list" its.toArray.toList.toArray 0)).get? h'.objs.size = some (PyProof.Rows.seqObj "list" its.toArray.toList.toArray 0) := Heap.get?_push_size _ rfl
  show wpAny _ _ _ _ _ { s with heap := h'.push (PyProof.Rows.seqObj "list" its.toArray.toList.toArray 0) }
  refine wpAny_bind (wpAny_holding (wpAny_call_entry PyProof.Rows.slot_list_sort ⟨_, hoL, rfl⟩ PyProof.Rows.entry_list_sort
    (PyProof.Rows.list_sort_treeAny (s := { s with heap := h'.push (PyProof.Rows.seqObj "list" its.toArray.toList.toArray 0) }) hoL (by simpa using hS) (by simpa using hl) fun out ys g1 g2 g3 => ⟨_, rfl, ?_⟩) (PyProof.Rows.args_list_sort _)))
  obtain ⟨e', he'⟩ := PyProof.Rows.sortedHeap_at (vs := its.toArray.toList) (out := out) hoL
  have hlen : (ys.map V.int).length ≤ sizeLine := by
    rw [List.length_map, g2.length_eq]
    rw [List.length_map] at hz
    exact hz
  refine wpAny_pure ⟨_, rfl, .ref h'.objs.size, upd H h'.objs.size (.lst (ys.map V.int)), I1.laid (t' := s.toks) (fun b u e => ?_) (Nat.le_refl _)
    (show ObjOk X.prog X.w _ _ _ (.lst (ys.map V.int)) from ⟨hlen, out.toList, e', vals_of_ints g1, by rw [Array.toArray_toList]; exact he'⟩), rfl, q ys _ g2 g3 (I1.hok.fresh (Nat.le_refl _))⟩
  have hb : b < h'.objs.size := Heap.lt_size e
  rw [PyProof.Rows.sortedHeap_old (Nat.ne_of_lt hb) (by rw [PyProof.Rows.size_push']; exact Nat.lt_succ_of_lt hb)]
  exact Heap.get?_push_of_some _ e
def oSortT : D1 := fun x R => match x with
  | .d (.tuple xs) => match intsOf xs with
    | some ns => R (.own ((isort ns).map .int))
    | none => False
  | _ => False
theorem on_sortT {X : Cx} : OpN X (rSortedTI X.K) (o1 oSortT) := on_1 fun G F δ σ H v x R Q hK g hx h k => by
  unfold oSortT at h
  split at h
  · rename_i xs
    split at h
    · rename_i ns e
      obtain ⟨l, vs, rfl, h1, h2⟩ := tup_of hx g.fh
      rw [intsOf_eq e] at h2
      rw [h2.ints] at h1
      rw [hK] at h1
      refine ⟨l, ns, rfl, h1, fun ns' q hp hs hq => ?_⟩
      rw [isort_of hp hs]
      exact k _ h _ _ _ (g.newO hq (atL_ints _))
    · exact h.elim
  · exact h.elim
theorem oSortT_t {xs : List PyData} {R : DV → Prop} : oSortT (.d (.tuple xs)) R = (match intsOf xs with | some ns => R (.own ((isort ns).map .int)) | none => False) := rfl
section
variable {u : Nat} {X : Cx} {W : WC} {e : Expr} {pos p : Pos} {mas : MA}
theorem de_sortedT (hg : Gl X "sorted") (hm : X.mg "sorted" = none) (ha : DA X W [e] mas u) (he : starEach [e] X.env = (false, eval e X.env) :: starEach [] X.env := by rfl) (hpl : (backTo pos (starEach [] X.env)).any (·.1) = false := by rfl) :
    DE X W (.Call (.Name "sorted" p) [e] [] pos) (mCB (o1 oSortT) mas) u := de_callB cr_sortedTI on_sortT hg hm (by decide +kernel) ha (by decide) (by decide) he hpl
end
end DL

namespace DL
open PySem PySem.Spec L2 PySem.W
/-! ## max(list of (number, (number, text))): one of those whose first part is greatest -/
abbrev HP := Int × Int × Str
def hpD (p : HP) : PyData := .tuple [.int p.1, .tuple [.int p.2.1, .str p.2.2]]
def rMaxH (K : Frag) : List V → Hp → VK → Prop := fun vs H Q => ∃ (a : Addr) (xs : List V) (p : HP) (ps : List HP) (F : Hp), vs = [.ref a] ∧ SqL K H a xs ∧ Same F H ∧ AtL K F xs ((p :: ps).map hpD) ∧ ∀ v, At K F v (maxD (hpD p) (ps.map hpD)) → Q v H
theorem reads_hs {K : Frag} {F : Hp} {h : Heap} : ∀ {xs : List V} {us : List Value} {ps : List HP}, Vals xs us → AtL K F xs (ps.map hpD) → (∀ (x : V) (u : Value) (p : HP), RelV x u → At K F x (hpD p) → ∃ as, Reads h u (hpD p) as) → ∃ as, ReadsAll h us (ps.map hpD) as
  | [], _, ps, r, q, _ => by
    cases r
    cases ps with
    | nil => exact ⟨_, .nil⟩
    | cons _ _ => cases q
  | x :: xs, _, ps, r, q, f => by
    cases r with
    | cons r1 r2 =>
      cases ps with
      | nil => cases q
      | cons p ps =>
        cases q with
        | cons h1 h2 =>
          obtain ⟨as, a1⟩ := f _ _ p r1 h1
          obtain ⟨bs, a2⟩ := reads_hs r2 h2 f
          exact ⟨_, .cons a1 a2⟩
theorem depth_hs : ∀ ps : List HP, PyData.depthAll (ps.map hpD) ≤ 2
  | [] => by simp [PyData.depthAll]
  | p :: ps => by
    have := depth_hs ps
    simp only [List.map_cons, PyData.depthAll]
    have hd : (hpD p).depth ≤ 2 := by simp [hpD, PyData.depth, PyData.depthAll]
    omega
theorem cr_maxH {X : Cx} (hc : X.calm = true) (hu : X.A.units + 64 < cLine) : CallR X (.builtin "max") (rMaxH X.K) := by
  intro pins s σ H vs us Q I r h
  obtain ⟨a, xs, p, ps, F, rfl, hs, hF, hat, q⟩ := h
  obtain ⟨its, rv, hl, hz⟩ := I.list hs
  rw [Vals.ref1 r]
  have er : ∀ (x : V) (u : Value) (p : HP), RelV x u → At X.K F x (hpD p) → ∃ as, Reads s.heap u (hpD p) as := fun x u p r1 h1 => At.reads I hF (hpD p) x u (by simp [hpD, PyData.hasDict, PyData.hasDictAll]) h1 r1
  obtain ⟨as, hr⟩ := reads_hs rv hat er
  have hd := depth_hs (p :: ps)
  simp only [List.map_cons] at hd
  refine max_list_data (I.ok.hd hc) hl.isList hr ⟨fun x hx y hy => ?_, fun x hx => ?_⟩ (by omega) fun i v h' tk bs hv rd hk => ?_
  · obtain ⟨b, _, rfl⟩ := List.mem_map.mp (show x ∈ (p :: ps).map hpD from hx)
    obtain ⟨c, _, rfl⟩ := List.mem_map.mp (show y ∈ (p :: ps).map hpD from hy)
    simp [hpD, alike, alikeAll]
  · obtain ⟨b, _, rfl⟩ := List.mem_map.mp (show x ∈ (p :: ps).map hpD from hx)
    intro z; cases z
  · obtain ⟨x, hx, rx⟩ := vals_nth rv (by simpa using hv)
    obtain ⟨d, hdd, hA⟩ := hat.get' hx
    rw [List.getElem?_map] at hdd
    obtain ⟨b, hb, rfl⟩ : ∃ b, (p :: ps)[i]? = some b ∧ hpD b = d := by
      cases e : (p :: ps)[i]? with
      | none => rw [e] at hdd; cases hdd
      | some b => rw [e] at hdd; exact ⟨b, rfl, Option.some.inj hdd⟩
    obtain ⟨cs, hR⟩ := er x v b rx hA
    have e := (PyProof.Rows.reads_det (fun b o e _ => hk b o e) hR rd).1
    refine ⟨x, H, I.kept hk, rx, q x ?_⟩
    rw [e]
    exact hA
theorem lt_hp (p q : HP) : (dataLt (hpD p) (hpD q) = true → p.1 ≤ q.1) ∧ (dataLt (hpD p) (hpD q) = false → q.1 ≤ p.1) := by
  unfold hpD
  rw [dataLt_pair (by simp [alike]) (by simp [alike, alikeAll]), dataLt_int]
  by_cases c : PyData.eqv (.int p.1) (.int q.1) = true
  · have e : p.1 = q.1 := by
      have c : (p.1 == q.1) = true := c
      simpa using c
    rw [e]
    exact ⟨fun _ => Int.le_refl _, fun _ => Int.le_refl _⟩
  · rw [if_neg c]
    simp only [decide_eq_true_eq, decide_eq_false_iff_not]
    omega
theorem maxD_hs : ∀ (ps : List HP) (p : HP), ∃ m, m ∈ p :: ps ∧ (∀ q ∈ p :: ps, q.1 ≤ m.1) ∧ maxD (hpD p) (ps.map hpD) = hpD m
  | [], p => ⟨p, by simp, fun q hq => by
    rw [List.mem_singleton.mp hq]
    exact Int.le_refl _, rfl⟩
  | b :: ps, p => by
    have e : maxD (hpD p) ((b :: ps).map hpD) = maxD (if dataLt (hpD p) (hpD b) then hpD b else hpD p) (ps.map hpD) := rfl
    rw [e]
    have hlt := lt_hp p b
    by_cases c : dataLt (hpD p) (hpD b) = true
    · rw [if_pos c]
      have := hlt.1 c
      obtain ⟨m, h1, h2, h3⟩ := maxD_hs ps b
      refine ⟨m, List.mem_cons_of_mem _ h1, fun q hq => ?_, h3⟩
      rcases List.mem_cons.mp hq with rfl | hq
      · have := h2 b (by simp)
        omega
      · exact h2 q hq
    · rw [if_neg c]
      have := hlt.2 (by simpa using c)
      obtain ⟨m, h1, h2, h3⟩ := maxD_hs ps p
      refine ⟨m, (List.mem_cons.mp h1).elim (fun z => by rw [z]; exact List.mem_cons_self) fun z => List.mem_cons_of_mem _ (List.mem_cons_of_mem _ z), fun q hq => ?_, h3⟩
      rcases List.mem_cons.mp hq with rfl | hq
      · exact h2 q (by simp)
      · rcases List.mem_cons.mp hq with rfl | hq
        · have := h2 p (by simp)
          omega
        · exact h2 q (by simp [hq])
def hpOf : PyData → Option HP
  | .tuple [.int a, .tuple [.int b, .str c]] => some (a, b, c)
  | _ => none
def hpsL : List PyData → Option (List HP)
  | [] => some []
  | d :: ds => match hpOf d, hpsL ds with
    | some p, some ps => some (p :: ps)
    | _, _ => none
theorem hpOf_eq {d : PyData} {p : HP} (h : hpOf d = some p) : d = hpD p := by
  unfold hpOf at h
  split at h
  · cases h; rfl
  · cases h
theorem hpsL_eq : ∀ {ds : List PyData} {ps : List HP}, hpsL ds = some ps → ds = ps.map hpD
  | [], _, h => by cases h; rfl
  | d :: ds, ps, h => by
    unfold hpsL at h
    split at h
    · rename_i p ps' h1 h2
      cases h
      rw [hpOf_eq h1, hpsL_eq h2]
      rfl
    · cases h
theorem hpsL_map : ∀ ps : List HP, hpsL (ps.map hpD) = some ps
  | [] => rfl
  | p :: ps => by
    show (match hpOf (hpD p), hpsL (ps.map hpD) with
      | some p, some ps => some (p :: ps)
      | _, _ => none) = _
    rw [hpsL_map ps]
    rfl
def oMaxH : D1 := fun x R => match x.lst with
  | some ds => match hpsL ds with
    | some ps => 0 < ps.length ∧ ∀ m ∈ ps, (∀ q ∈ ps, q.1 ≤ m.1) → R (.d (hpD m))
    | none => False
  | none => False
theorem on_maxH {X : Cx} : OpN X (rMaxH X.K) (o1 oMaxH) := on_1 fun G F δ σ H v x R Q hK g hx h k => by
  unfold oMaxH at h
  split at h
  · rename_i ds e
    split at h
    · rename_i ps e2
      obtain ⟨l, vs, rfl, h1, h2⟩ := lst_of hx g.fh e
      rw [hpsL_eq e2] at h2
      cases ps with
      | nil => exact absurd h.1 (by simp)
      | cons p ps =>
        obtain ⟨m, m1, m2, m3⟩ := maxD_hs ps p
        refine ⟨l, vs, p, ps, F, rfl, SqL.of h1, g.fh, by rw [← hK]; exact h2, fun v hv => ?_⟩
        rw [m3] at hv
        exact k _ (h.2 m m1 m2) v F H (g.pushD (by rw [hK]; exact hv))
    · exact h.elim
  · exact h.elim
section
variable {u : Nat} {X : Cx} {W : WC} {e : Expr} {pos p : Pos} {mas : MA}
theorem de_maxH (cx : CtxU X) (hc : X.calm = true) (hg : Gl X "max") (hm : X.mg "max" = none) (ha : DA X W [e] mas u) (he : starEach [e] X.env = (false, eval e X.env) :: starEach [] X.env := by rfl) (hpl : (backTo pos (starEach [] X.env)).any (·.1) = false := by rfl) :
    DE X W (.Call (.Name "max" p) [e] [] pos) (mCB (o1 oMaxH) mas) u := de_callB (cr_maxH hc cx.u64) on_maxH hg hm (by decide +kernel) ha (by decide) (by decide) he hpl
end
section
variable {xs : List PyData} {R : DV → Prop}
theorem oMaxH_o : oMaxH (.own xs) R = (match hpsL xs with | some ps => 0 < ps.length ∧ ∀ m ∈ ps, (∀ q ∈ ps, q.1 ≤ m.1) → R (.d (hpD m)) | none => False) := rfl
theorem oMaxH_l : oMaxH (.d (.list xs)) R = (match hpsL xs with | some ps => 0 < ps.length ∧ ∀ m ∈ ps, (∀ q ∈ ps, q.1 ≤ m.1) → R (.d (hpD m)) | none => False) := rfl
theorem oMaxH_b : oMaxH (.bor xs) R = (match hpsL xs with | some ps => 0 < ps.length ∧ ∀ m ∈ ps, (∀ q ∈ ps, q.1 ≤ m.1) → R (.d (hpD m)) | none => False) := rfl
end
end DL

namespace DL
open PySem PySem.Spec L2
/-! ## a, b, c, d = e1, e2, e3, e4: a tuple is made, taken apart, forgotten -/
def mPar4 (i j l m : Nat) (t : MA) : MS := fun ex E δ => t ex δ fun xs => match xs with
  | [x, y, z, w] => x.isBor = false ∧ y.isBor = false ∧ z.isBor = false ∧ w.isBor = false ∧ i < δ.length ∧ j < δ.length ∧ l < δ.length ∧ m < δ.length ∧ E.nx ((((δ.set i (some x)).set j (some y)).set l (some z)).set m (some w))
  | _ => False
section
variable {u1 : Nat} {X : Cx} {W : WC} {a b c d : Expr} {pos : Pos} {mas : MA} {x y z w : Str}
theorem ds_tup4 {i j l m : Nat} {px py pz pw pt pt2 : Pos} {kt k2 : _} (hc : X.calm = true) (hN : X.N.Nodup) (hi : X.N[i]? = some x) (hj : X.N[j]? = some y) (hl : X.N[l]? = some z) (hm : X.N[m]? = some w) (hij : i ≠ j) (hil : i ≠ l) (him : i ≠ m) (hjl : j ≠ l) (hjm : j ≠ m) (hlm : l ≠ m) (hx : Loc X.env.scope x) (hy : Loc X.env.scope y) (hz : Loc X.env.scope z) (hw' : Loc X.env.scope w) (ha : DA X W [a, b, c, d] mas u1)
    (hfx : X.fn x = true ∨ X.env.scope.names.lookup x = some .local := by first | exact .inl rfl | exact .inr rfl) (hfy : X.fn y = true ∨ X.env.scope.names.lookup y = some .local := by first | exact .inl rfl | exact .inr rfl) (hfz : X.fn z = true ∨ X.env.scope.names.lookup z = some .local := by first | exact .inl rfl | exact .inr rfl) (hfw : X.fn w = true ∨ X.env.scope.names.lookup w = some .local := by first | exact .inl rfl | exact .inr rfl)
    (hn : (assignEach [.Name x px, .Name y py, .Name z pz, .Name w pw] X.env).length = 4 := by rfl) (hst : (assignEach [.Name x px, .Name y py, .Name z pz, .Name w pw] X.env).findIdx? (·.1) = none := by rfl)
    (h1 : (assignEach [.Name x px, .Name y py, .Name z pz, .Name w pw] X.env).map (·.2) = assign (.Name x px) X.env :: (assignEach [.Name y py, .Name z pz, .Name w pw] X.env).map (·.2) := by rfl) (h2 : (assignEach [.Name y py, .Name z pz, .Name w pw] X.env).map (·.2) = assign (.Name y py) X.env :: (assignEach [.Name z pz, .Name w pw] X.env).map (·.2) := by rfl)
    (h3 : (assignEach [.Name z pz, .Name w pw] X.env).map (·.2) = assign (.Name z pz) X.env :: (assignEach [.Name w pw] X.env).map (·.2) := by rfl) (h4 : (assignEach [.Name w pw] X.env).map (·.2) = assign (.Name w pw) X.env :: (assignEach [] X.env).map (·.2) := by rfl)
    (hs : swapsWithSole [.Tuple [.Name x px, .Name y py, .Name z pz, .Name w pw] kt pt] (.Tuple [a, b, c, d] k2 pt2) pos.line X.env = pure false := by rfl) (hw : swappedStores [.Tuple [.Name x px, .Name y py, .Name z pz, .Name w pw] kt pt] (.Tuple [a, b, c, d] k2 pt2) X.env = pure none := by rfl)
    (h0 : (assignEach [.Tuple [.Name x px, .Name y py, .Name z pz, .Name w pw] kt pt] X.env).map (·.2) = [assign (.Tuple [.Name x px, .Name y py, .Name z pz, .Name w pw] kt pt) X.env] := by rfl) :
    DS X W (.Assign [.Tuple [.Name x px, .Name y py, .Name z pz, .Name w pw] kt pt] (.Tuple [a, b, c, d] k2 pt2) pos) (mPar4 i j l m mas) u1 :=
  ⟨PS.imp (ps_asg (pe_tup ha.pa) (pg_tup hc (pgs_cons (pg_name hN hi hx hfx) (pgs_cons (pg_name hN hj hy hfy) (pgs_cons (pg_name hN hl hz hfz) (pgs_cons (pg_name hN hm hw' hfw) pgs_nil h4) h3) h2) h1) hn hst) hs hw h0) fun D σ H q => by
    obtain ⟨ex, G, F, δ, τ, ts, E, n, nb, eo, h⟩ := q
    refine ⟨ex, G, F, δ, τ, ts, [], [], _, n, h, fun xs hxs vs F1 H1 hln g1 => ?_⟩
    match xs, hxs, hln, g1 with
    | [x, y, z, w], hxs, hln, g1 =>
      obtain ⟨q1, q2, q3, q3', q4, q5, q6, q6', q7⟩ := hxs
      match vs, hln, g1 with
      | [v, u, w', y'], hln, g1 =>
        refine ⟨by show 4 ≤ sizeLine; decide, fun p hp => ⟨p, [v, u, w', y'], rfl, SqT.of upd_same, rfl, v, [u, w', y'], rfl, u, [w', y'], rfl, w', [y'], rfl, y', [], rfl, rfl, ?_⟩⟩
        have l1 := n.l1
        have g : Good (G.up u1) F1 (δ ++ (τ ++ [some x] ++ [some y] ++ [some z]) ++ [some w]) (σ ++ (ts ++ [some v] ++ [some u] ++ [some w']) ++ [some y']) (upd H1 p (.tup [v, u, w', y'])) := by
          have := g1.alloc (o := .tup [v, u, w', y']) hp
          simpa using this
        have g1 : Good (G.up u1) F1 (δ.set m (some w) ++ (τ ++ [some x] ++ [some y]) ++ [some z]) (σ.set m (some y') ++ (ts ++ [some v] ++ [some u]) ++ [some w']) (upd H1 p (.tup [v, u, w', y'])) := by
          have := setTop2 l1 q6' g
          simpa only [List.append_assoc] using this
        have g2 : Good (G.up u1) F1 ((δ.set m (some w)).set l (some z) ++ (τ ++ [some x]) ++ [some y]) ((σ.set m (some y')).set l (some w') ++ (ts ++ [some v]) ++ [some u]) (upd H1 p (.tup [v, u, w', y'])) := by
          have := setTop2 (by simpa using l1) (j := l) (by simpa using q6) g1
          simpa only [List.append_assoc] using this
        have g3 : Good (G.up u1) F1 (((δ.set m (some w)).set l (some z)).set j (some y) ++ τ ++ [some x]) (((σ.set m (some y')).set l (some w')).set j (some u) ++ ts ++ [some v]) (upd H1 p (.tup [v, u, w', y'])) := by
          have := setTop2 (by simpa using l1) (j := j) (by simpa using q5) g2
          simpa only [List.append_assoc] using this
        have g4 := setTop2 (by simpa using l1) (j := i) (by simpa using q4) g3
        have perm : ∀ {α : Type} (s : List α) (r1 r2 r3 r4 : α), (((s.set m r4).set l r3).set j r2).set i r1 = (((s.set i r1).set j r2).set l r3).set m r4 := fun {α} s r1 r2 r3 r4 => by
          have a1 : ∀ (t : List α) r s, (t.set j r).set i s = (t.set i s).set j r := fun t r s => List.set_comm _ _ (Ne.symm hij)
          have a2 : ∀ (t : List α) r s, (t.set l r).set i s = (t.set i s).set l r := fun t r s => List.set_comm _ _ (Ne.symm hil)
          have a3 : ∀ (t : List α) r s, (t.set m r).set i s = (t.set i s).set m r := fun t r s => List.set_comm _ _ (Ne.symm him)
          have b1 : ∀ (t : List α) r s, (t.set l r).set j s = (t.set j s).set l r := fun t r s => List.set_comm _ _ (Ne.symm hjl)
          have b2 : ∀ (t : List α) r s, (t.set m r).set j s = (t.set j s).set m r := fun t r s => List.set_comm _ _ (Ne.symm hjm)
          have c1 : ∀ (t : List α) r s, (t.set m r).set l s = (t.set l s).set m r := fun t r s => List.set_comm _ _ (Ne.symm hlm)
          rw [a1, a2, a3, b1, b2, c1]
        rw [perm, perm] at g4
        refine eo.nx _ q7 _ _ F1 _ (Nat.le_refl _) (by simpa using l1) ?_ g4
        exact nb_mk (noBor_set (noBor_set (noBor_set (noBor_set (nb_left nb) q1) q2) q3) q3') (nb_right nb)⟩
end
end DL

namespace DL
open PySem PySem.Spec L2 PySem.W
/-! ## sorted(list of (number, tuple of numbers)) -/
abbrev CP := Int × List Int
def cpD (p : CP) : PyData := .tuple [.int p.1, .tuple (p.2.map .int)]
def rSortedC (K : Frag) : List V → Hp → VK → Prop := fun vs H Q => ∃ (a : Addr) (xs : List V) (ps : List CP) (F : Hp), vs = [.ref a] ∧ SqL K H a xs ∧ Same F H ∧ AtL K F xs (ps.map cpD) ∧
  ∀ ys l, AtL K F ys ((ps.mergeSort (dataLe false cpD)).map cpD) → H l = none → Q (.ref l) (upd H l (.lst ys))
theorem each_inC {K : Frag} {F : Hp} : ∀ {xs : List V} {us : List Value} {ps : List CP}, Vals xs us → AtL K F xs (ps.map cpD) → EachIs (fun v b => ∃ x, RelV x v ∧ At K F x (cpD b)) us ps
  | [], _, ps, r, h => by
    cases r
    cases ps with
    | nil => exact .nil
    | cons _ _ => cases h
  | x :: xs, _, ps, r, h => by
    cases r with
    | cons r1 r2 =>
      cases ps with
      | nil => cases h
      | cons p ps =>
        cases h with
        | cons h1 h2 => exact .cons ⟨x, r1, h1⟩ (each_inC r2 h2)
theorem each_outC {K : Frag} {F : Hp} : ∀ {us : List Value} {ps : List CP}, EachIs (fun v b => ∃ x, RelV x v ∧ At K F x (cpD b)) us ps → ∃ ys, Vals ys us ∧ AtL K F ys (ps.map cpD)
  | _, _, .nil => ⟨[], .nil, .nil⟩
  | _, _, .cons ⟨x, r, h⟩ t => by
    obtain ⟨ys, r2, h2⟩ := each_outC t
    exact ⟨x :: ys, .cons r r2, .cons h h2⟩
theorem noDict_ints : ∀ ns : List Int, PyData.hasDictAll (ns.map .int) = false
  | [] => by simp [PyData.hasDictAll]
  | n :: ns => by simp [PyData.hasDictAll, PyData.hasDict, noDict_ints ns]
theorem cp_noDict (p : CP) : (cpD p).hasDict = false := by simp [cpD, PyData.hasDict, PyData.hasDictAll, noDict_ints]
theorem alikeC : ∀ xs ys : List Int, alikeAll (xs.map .int) (ys.map .int) = true
  | [], _ => by simp [alikeAll]
  | _ :: _, [] => by simp [alikeAll]
  | x :: xs, y :: ys => by
    show alikeAll (.int x :: xs.map .int) (.int y :: ys.map .int) = true
    rw [alikeAll, alikeC xs ys]
    simp [alike]
theorem cp_alike (p q : CP) : alike (cpD p) (cpD q) = true := by
  simp only [cpD, alike, alikeAll, Bool.true_and, Bool.and_true]
  exact alikeC _ _
theorem cp_depth (p : CP) : (cpD p).depth ≤ 2 := by simp [cpD, PyData.depth, PyData.depthAll, depth_ints]
theorem cr_sortedC {X : Cx} (hu : X.A.units + 64 < cLine) : CallR X (.builtin "sorted") (rSortedC X.K) := by
  intro pins s σ H vs us Q I r h
  obtain ⟨a, xs, ps, F, rfl, hs, hF, hat, q⟩ := h
  obtain ⟨its, rv, hl, hz⟩ := I.list hs
  rw [Vals.ref1 r]
  have e := each_inC rv hat
  have er : EachIs (fun v b => ∃ as, Reads s.heap v (cpD b) as) its ps := e.mono fun v b ⟨x, r1, h1⟩ => At.reads I hF (cpD b) x v (cp_noDict b) h1 r1
  refine sorted_data (enc := cpD) hl.isList e er (AllAlike.of fun _ _ => cp_alike _ _) (Sortable.tuples fun _ => ⟨_, _, rfl⟩) (by have h1 := hat.length; rw [List.length_map] at h1; omega) (fun b _ => by have := cp_depth b; omega) fun out h1 eo => ?_
  obtain ⟨ys, k1, k2⟩ := each_outC eo
  obtain ⟨ep, he'⟩ := PyProof.Rows.sortedAll_at s.heap its out.toArray
  have hlen : ys.length ≤ sizeLine := by
    have h2 := k2.length
    have h3 := hat.length
    rw [List.length_map] at h2 h3
    rw [h2, List.length_mergeSort]
    omega
  exact ⟨.ref _, upd H (s.heap.objs.size + 1) (.lst ys), I.laid (t' := s.toks) (fun _ _ => PyProof.Rows.sortedAll_old) (Nat.le_succ _) ⟨hlen, out, ep, k1, he'⟩, rfl, q _ _ k2 (I.hok.fresh (Nat.le_succ _))⟩
def intOf : PyData → Option Int
  | .int a => some a
  | _ => none
def cpOf : PyData → Option CP
  | .tuple [.int a, .tuple xs] => (intsOf xs).map fun ns => (a, ns)
  | _ => none
def cpsL : List PyData → Option (List CP)
  | [] => some []
  | d :: ds => match cpOf d, cpsL ds with
    | some p, some ps => some (p :: ps)
    | _, _ => none
theorem cpOf_eq {d : PyData} {p : CP} (h : cpOf d = some p) : d = cpD p := by
  unfold cpOf at h
  split at h
  · rename_i a xs
    cases e : intsOf xs with
    | none => rw [e] at h; cases h
    | some ns =>
      rw [e] at h
      cases h
      rw [intsOf_eq e]
      rfl
  · cases h
theorem cpsL_eq : ∀ {ds : List PyData} {ps : List CP}, cpsL ds = some ps → ds = ps.map cpD
  | [], _, h => by cases h; rfl
  | d :: ds, ps, h => by
    unfold cpsL at h
    split at h
    · rename_i p ps' h1 h2
      cases h
      rw [cpOf_eq h1, cpsL_eq h2]
      rfl
    · cases h
theorem cpOf_cp (p : CP) : cpOf (cpD p) = some p := by
  show (intsOf (p.2.map .int)).map _ = _
  rw [intsOf_map]
  rfl
theorem cpsL_map : ∀ ps : List CP, cpsL (ps.map cpD) = some ps
  | [] => rfl
  | p :: ps => by
    show (match cpOf (cpD p), cpsL (ps.map cpD) with
      | some p, some ps => some (p :: ps)
      | _, _ => none) = _
    rw [cpsL_map ps, cpOf_cp]
def sortC (ps : List CP) : List CP := ps.mergeSort (dataLe false cpD)
theorem lt_cp (p q : CP) : dataLt (cpD p) (cpD q) = if p.1 = q.1 then listLt p.2 q.2 else decide (p.1 < q.1) := DatumOrd.lt_eq (α := Int × Tup Int) (p.1, ⟨p.2⟩) (q.1, ⟨q.2⟩)
theorem le_trC (a b c : CP) (h1 : dataLe false cpD a b = true) (h2 : dataLe false cpD b c = true) : dataLe false cpD a c = true := by
  have h1 : (!dataLt (cpD b) (cpD a)) = true := h1
  have h2 : (!dataLt (cpD c) (cpD b)) = true := h2
  show (!dataLt (cpD c) (cpD a)) = true
  cases q : dataLt (cpD c) (cpD a) with
  | false => rfl
  | true =>
    rcases PyProof.Rows.lex_negTrans _ (keyToks (cpD b)) _ q with z | z
    · rw [show dataLt (cpD c) (cpD b) = true from z] at h2; cases h2
    · rw [show dataLt (cpD b) (cpD a) = true from z] at h1; cases h1
theorem le_toC (a b : CP) : (dataLe false cpD a b || dataLe false cpD b a) = true := by
  show ((!dataLt (cpD b) (cpD a)) || (!dataLt (cpD a) (cpD b))) = true
  cases q : dataLt (cpD b) (cpD a) with
  | false => rfl
  | true =>
    cases z : dataLt (cpD a) (cpD b) with
    | false => rfl
    | true =>
      unfold dataLt at q z
      have := PyProof.Rows.lex_trans _ _ _ q z
      rw [PyProof.Rows.lex_irrefl] at this
      cases this
/-- the first one after sorting -/
theorem sortC_head {ps : List CP} {m : CP} (hm : m ∈ ps) (h : ∀ q ∈ ps, q = m ∨ dataLt (cpD m) (cpD q) = true) : (sortC ps).head? = some m := by
  have hp : (sortC ps).Perm ps := List.mergeSort_perm _ _
  have hw : (sortC ps).Pairwise fun a b => dataLe false cpD a b = true := List.pairwise_mergeSort le_trC le_toC ps
  cases e : sortC ps with
  | nil => rw [e] at hp; rw [hp.nil_eq.symm] at hm; cases hm
  | cons x xs =>
    rw [e] at hp hw
    have hx := h x (hp.mem_iff.mp (List.mem_cons_self ..))
    rcases hx with rfl | hx
    · rfl
    · rcases List.mem_cons.mp (hp.mem_iff.mpr hm) with rfl | q
      · rfl
      · have h1 := (List.pairwise_cons.mp hw).1 m q
        have h1 : (!dataLt (cpD m) (cpD x)) = true := h1
        rw [hx] at h1
        cases h1
def oSortC : D1 := fun x R => match x.lst with
  | some ds => match cpsL ds with
    | some ps => R (.own ((sortC ps).map cpD))
    | none => False
  | none => False
theorem on_sortC {X : Cx} : OpN X (rSortedC X.K) (o1 oSortC) := on_1 fun G F δ σ H v x R Q hK g hx h k => by
  unfold oSortC at h
  split at h
  · rename_i ds e
    split at h
    · rename_i ps e2
      obtain ⟨l, vs, rfl, h1, h2⟩ := lst_of hx g.fh e
      rw [cpsL_eq e2] at h2
      refine ⟨l, vs, ps, F, rfl, SqL.of h1, g.fh, by rw [← hK]; exact h2, fun ys p hys hp => ?_⟩
      exact k _ h _ _ _ (g.newO hp (by rw [hK]; exact hys))
    · exact h.elim
  · exact h.elim
theorem oSortC_o {xs : List PyData} {R : DV → Prop} : oSortC (.own xs) R = (match cpsL xs with | some ps => R (.own ((sortC ps).map cpD)) | none => False) := rfl
theorem oSortC_l {xs : List PyData} {R : DV → Prop} : oSortC (.d (.list xs)) R = (match cpsL xs with | some ps => R (.own ((sortC ps).map cpD)) | none => False) := rfl
section
variable {u : Nat} {X : Cx} {W : WC} {e : Expr} {pos p : Pos} {mas : MA}
theorem de_sortedC (cx : CtxU X) (hg : Gl X "sorted") (hm : X.mg "sorted" = none) (ha : DA X W [e] mas u) (he : starEach [e] X.env = (false, eval e X.env) :: starEach [] X.env := by rfl) (hpl : (backTo pos (starEach [] X.env)).any (·.1) = false := by rfl) :
    DE X W (.Call (.Name "sorted" p) [e] [] pos) (mCB (o1 oSortC) mas) u := de_callB (cr_sortedC cx.u64) on_sortC hg hm (by decide +kernel) ha (by decide) (by decide) he hpl
end
end DL

/-! ## {"a": i, "b": j, "c": k} of numbers -/
namespace DL
open PySem PySem.Spec L2
theorem Good.fill {G : Gm} {F0 F : Hp} {D : Env} {S : L2.St} {H0 H : Hp} {p : Addr} {ks : List (PyData × PyData)} {kvs : List (Key × V)} (n : Good G F0 D S H0) (hp : H0 p = none) (g : Good G F (D ++ [some (.odk [])]) (S ++ [some (.ref p)]) H) (h : AtKv G.K F kvs ks) :
    Good G F (D ++ [some (.odk ks)]) (S ++ [some (.ref p)]) (upd H p (.dK kvs)) := by
  have hl : D.length = S.length := n.len
  have g5 := g.writeG (n := D.length) (x := .odk []) (y := .odk ks) (l := p) (o := .dK kvs) rfl rfl (fun j w e b => ?_) (by simp) (by rw [hl]; simp) (fun H' h1 h2 h3 => ⟨p, _, rfl, h1, h, h2, h3⟩)
  · rw [show (D ++ [some (DV.odk [])]).set D.length (some (.odk ks)) = D ++ [some (.odk ks)] by rw [List.set_append_right _ _ (Nat.le_refl _), Nat.sub_self]; rfl] at g5
    exact g5
  · intro ew
    have hj : j < D.length ∨ j = D.length := by
      have := (List.getElem?_eq_some_iff.mp e).1
      simp at this ⊢; omega
    rcases hj with hj | hj
    · have e0 : D[j]? = some (some w) := by rw [List.getElem?_append_left hj] at e; exact e
      obtain ⟨w3, ew3, hw3⟩ := n.sl j w e0
      rw [List.getElem?_append_left (by omega), ew3] at ew
      cases ew
      obtain ⟨l3, o3, e3, h3, _⟩ := bor_at hw3 (by rw [b]; simp)
      cases e3
      rw [hp] at h3; cases h3
    · subst hj
      simp at e
      subst e
      cases b
def DV.num : DV → Option Int
  | .d (.int i) => some i
  | _ => none
theorem num_i {i : Int} : DV.num (.d (.int i)) = some i := rfl
theorem num_of {x : DV} {i : Int} (h : x.num = some i) : x = .d (.int i) := by
  unfold DV.num at h
  split at h
  · cases h; rfl
  · cases h
def mDispI3 (x1 x2 x3 : Str) (m1 m2 m3 : ME) : ME := fun ex δ R => m1 ex δ fun y1 => m2 ex δ fun y2 => m3 ex δ fun y3 => match y1.num, y2.num, y3.num with
  | some i1, some i2, some i3 => R (.odk [(.str x1, .int i1), (.str x2, .int i2), (.str x3, .int i3)])
  | _, _, _ => False
section
variable {X : Cx} {W : WC} {u1 u2 u3 : Nat} {e1 e2 e3 : Expr} {m1 m2 m3 : ME} {x1 x2 x3 : Str} {j1 j2 j3 : Nat} {p1 p2 p3 pos : Pos}
theorem de_dispI3 (n12 : x1 ≠ x2) (n13 : x1 ≠ x3) (n23 : x2 ≠ x3) (h1 : DE X W e1 m1 u1) (h2 : DE X W e2 m2 u2) (h3 : DE X W e3 m3 u3) :
    DE X W (.Dict [some (.Constant (.str x1) j1 p1), some (.Constant (.str x2) j2 p2), some (.Constant (.str x3) j3 p3)] [e1, e2, e3] pos) (mDispI3 x1 x2 x3 m1 m2 m3) (u1 + (u2 + u3)) :=
  ⟨PE.imp (pe_disp (pps_cons pe_str h1.pe (pps_cons pe_str h2.pe (pps_cons pe_str h3.pe pps_nil))) (by rfl) (by rfl) (fun z => by cases z) (by show 3 ≤ 15; decide)) fun σ H Q q => by
    obtain ⟨ex, G, F, δ, τ, ts, τ1, ts1, R, n, m, k⟩ := q
    intro p hp
    have gp : Good G F (δ ++ τ ++ τ1 ++ [some (.odk [])]) (σ ++ ts ++ ts1 ++ [some (.ref p)]) (upd H p (.dK [])) := n.good.newK hp .nil
    have n1 : Now X.K X.mg W (u1 + (u2 + u3)) ex G F δ σ τ ts (τ1 ++ [some (.odk [])]) (ts1 ++ [some (.ref p)]) (upd H p (.dK [])) := ⟨n.k, n.l1, n.l2, by simpa only [List.append_assoc] using gp, n.link, n.ck⟩
    refine ⟨ex, G, F, δ, τ, ts, _, _, _, n1.fst, m, fun y1 hy1 v1 F1 H1 g1 => ?_⟩
    have n2 := n1.after g1
    refine ⟨ex, G.up u1, F1, δ, τ, ts, _, _, _, n2.fst, hy1, fun y2 hy2 v2 F2 H2 g2 => ?_⟩
    have n3 := n2.after g2
    refine ⟨ex, (G.up u1).up u2, F2, δ, τ, ts, _, _, _, n3, hy2, fun y3 hy3 v3 F3 H3 g3 => ?_⟩
    have e0 : Good (G.up (u1 + (u2 + u3))) F3 (δ ++ τ ++ τ1 ++ [some (.odk [])] ++ [some y1] ++ [some y2] ++ [some y3]) (σ ++ ts ++ ts1 ++ [some (.ref p)] ++ [some v1] ++ [some v2] ++ [some v3]) H3 := by
      rw [up_up, up_up] at g3
      simpa only [List.append_assoc, Nat.add_assoc] using g3
    have hy4 : (match y1.num, y2.num, y3.num with | some i1, some i2, some i3 => R (.odk [(.str x1, .int i1), (.str x2, .int i2), (.str x3, .int i3)]) | _, _, _ => False) := hy3
    clear hy3
    split at hy4
    · rename_i i1 i2 i3 n1' n2' n3'
      cases num_of n1'
      cases num_of n2'
      cases num_of n3'
      cases int_of e0.top
      cases int_of e0.pop.top
      cases int_of e0.pop.pop.top
      have g4 := e0.pop.pop.pop
      obtain ⟨l, kvs, e2, q1, q2, q3, q4⟩ := g4.top
      cases e2
      cases q2
      refine ⟨q1, [(.inr x1, .int i1), (.inr x2, .int i2), (.inr x3, .int i3)], rfl, by show 3 ≤ 15; decide, ?_⟩
      have em : mergeK [] [(.inr x1, V.int i1), (.inr x2, .int i2), (.inr x3, .int i3)] = [(.inr x1, V.int i1), (.inr x2, .int i2), (.inr x3, .int i3)] := by
        simp [mergeK, putK, n12, n13, n23, n12.symm, n13.symm, n23.symm]
      rw [em]
      have n0 : Good (G.up (u1 + (u2 + u3))) F (δ ++ τ ++ τ1) (σ ++ ts ++ ts1) H := n.good.later _
      exact k _ hy4 _ F3 _ (n0.fill hp g4 (.cons (.int i1) (.cons (.int i2) (.cons (.int i3) .nil))))
    · exact hy4.elim⟩
end
end DL

/-! ## isinstance(x, (T1, T2)), of built-in types -/
namespace DL
open PySem PySem.Spec L2
def mIsi2 (T1 T2 : String) (me : ME) : ME := fun ex δ R => me ex δ fun x => match x.pd with
  | some d => R (.d (.bool (isTy d T1 || isTy d T2)))
  | none => False
section
variable {X : Cx} {W : WC} {u : Nat} {e : Expr} {me : ME} {p pos tpos p1 p2 : Pos} {kx : Nat} {T1 T2 : String} {x1 x2 : Str}
theorem de_isi2 (h1 : T1 ∈ tys) (h2 : T2 ∈ tys) (hg : Gl X "isinstance") (hm : X.mg "isinstance" = none) (he : DE X W e me u) (g1 : Gl X x1) (m1 : X.mg x1 = none) (b1 : bootBuiltins x1 = some (.type T1)) (g2 : Gl X x2) (m2 : X.mg x2 = none) (b2 : bootBuiltins x2 = some (.type T2))
    (n1 : x1 ≠ "__name__" := by decide) (d1 : (x1 == ("__debug__" : Str)) = false := by decide) (n2 : x2 ≠ "__name__" := by decide) (d2 : (x2 == ("__debug__" : Str)) = false := by decide)
    (hs : starEach [e, .Tuple [.Name x1 p1, .Name x2 p2] kx tpos] X.env = (false, eval e X.env) :: starEach [.Tuple [.Name x1 p1, .Name x2 p2] kx tpos] X.env := by rfl) (hpl : (backTo pos (starEach [.Tuple [.Name x1 p1, .Name x2 p2] kx tpos] X.env)).any (·.1) = false := by rfl)
    (hs2 : starEach [.Tuple [.Name x1 p1, .Name x2 p2] kx tpos] X.env = (false, eval (.Tuple [.Name x1 p1, .Name x2 p2] kx tpos) X.env) :: starEach [] X.env := by rfl) :
    DE X W (.Call (.Name "isinstance" p) [e, .Tuple [.Name x1 p1, .Name x2 p2] kx tpos] [] pos) (mIsi2 T1 T2 me) u := by
  refine ⟨PE.imp (pe_callB call_isiT hg hm (by decide +kernel) (pa_cons he.pe (pa_cons (pe_tup (pa_cons (pe_bltn (v := .ty T1) g1 m1 b1 rfl n1 d1) (pa_cons (pe_bltn (v := .ty T2) g2 m2 b2 rfl n2 d2) pa_nil))) pa_nil hs2) hs) (by decide) (by decide) hs hpl) ?_⟩
  rintro σ H Q ⟨ex, G, F, δ, τ, ts, τ1, ts1, R, n, m, kk⟩
  refine ⟨ex, G, F, δ, τ, ts, τ1, ts1, _, n, m, fun x hx v F1 H1 g1 => ?_⟩
  have hx : (match x.pd with | some d => R (.d (.bool (isTy d T1 || isTy d T2))) | none => False) := hx
  split at hx
  · rename_i d ed
    refine ⟨by show 2 ≤ sizeLine; decide, fun tp htp => ?_⟩
    have g2 := g1.grow (o := .tup [V.ty T1, V.ty T2]) htp
    have hd := pd_da g2.top g2.fh ed
    rw [show (G.up u).K = X.K from n.k] at hd
    refine ⟨v, tp, _, _, _, isTy d T1 || isTy d T2, rfl, upd_same, .cons (.ty T1) (.cons (.ty T2) .nil), ty_of hd, ?_, kk _ hx _ _ _ (g2.pop.pushD (.bl _))⟩
    refine kitAny_cons (kit_ty (kit_is h1 d)) (fun e1 => kitAny_cons (kit_ty (kit_is h2 d)) (fun e2 => ?_) (fun e2 => ?_)) (fun e1 => ?_)
    · rw [e1, e2]; exact kitAny_nil
    · rw [e1, e2]; rfl
    · rw [e1]; rfl
  · exact hx.elim

variable {a b : Expr} {ma mb : ME} {u1 u2 : Nat}
/-- i & j, i | j -/
abbrev oBand : D2 := oI (fun _ _ => True) fun i j => Builtin.bitAnd i j
abbrev oBor : D2 := oI (fun _ _ => True) fun i j => Builtin.bitOr i j
theorem de_band (ha : DE X W a ma u1) (hb : DE X W b mb u2) : DE X W (.BinOp a .BitAnd b pos) (mBin oBand ma mb) (u1 + u2) := by
  have h : OpR X (binaryOp .BitAnd) (rI (fun _ _ => True) fun i j => .int (Builtin.bitAnd i j)) := by
    intro pins s σ H x y v u Q I rx ry ⟨i, j, e1, e2, _, q⟩
    exact op_and pins s σ H x y v u Q I rx ry ⟨i, j, e1, e2, q⟩
  exact de_op h o2_I ha hb
theorem de_bor (ha : DE X W a ma u1) (hb : DE X W b mb u2) : DE X W (.BinOp a .BitOr b pos) (mBin oBor ma mb) (u1 + u2) := by
  have h : OpR X (binaryOp .BitOr) (rI (fun _ _ => True) fun i j => .int (Builtin.bitOr i j)) := by
    intro pins s σ H x y v u Q I rx ry ⟨i, j, e1, e2, _, q⟩
    exact op_or pins s σ H x y v u Q I rx ry ⟨i, j, e1, e2, q⟩
  exact de_op h o2_I ha hb
end
end DL

namespace DL
open PySem PySem.Spec L2 PySem.W
/-! ## sorted(list of (number, text)) -/
abbrev QP := Int × Str
def qpD (p : QP) : PyData := .tuple [.int p.1, .str p.2]
def rSortedH (K : Frag) : List V → Hp → VK → Prop := fun vs H Q => ∃ (a : Addr) (xs : List V) (ps : List QP) (F : Hp), vs = [.ref a] ∧ SqL K H a xs ∧ Same F H ∧ AtL K F xs (ps.map qpD) ∧
  ∀ ys l, AtL K F ys ((ps.mergeSort (dataLe false qpD)).map qpD) → H l = none → Q (.ref l) (upd H l (.lst ys))
theorem each_inH {K : Frag} {F : Hp} : ∀ {xs : List V} {us : List Value} {ps : List QP}, Vals xs us → AtL K F xs (ps.map qpD) → EachIs (fun v b => ∃ x, RelV x v ∧ At K F x (qpD b)) us ps
  | [], _, ps, r, h => by
    cases r
    cases ps with
    | nil => exact .nil
    | cons _ _ => cases h
  | x :: xs, _, ps, r, h => by
    cases r with
    | cons r1 r2 =>
      cases ps with
      | nil => cases h
      | cons p ps =>
        cases h with
        | cons h1 h2 => exact .cons ⟨x, r1, h1⟩ (each_inH r2 h2)
theorem each_outH {K : Frag} {F : Hp} : ∀ {us : List Value} {ps : List QP}, EachIs (fun v b => ∃ x, RelV x v ∧ At K F x (qpD b)) us ps → ∃ ys, Vals ys us ∧ AtL K F ys (ps.map qpD)
  | _, _, .nil => ⟨[], .nil, .nil⟩
  | _, _, .cons ⟨x, r, h⟩ t => by
    obtain ⟨ys, r2, h2⟩ := each_outH t
    exact ⟨x :: ys, .cons r r2, .cons h h2⟩
theorem qp_noDict (p : QP) : (qpD p).hasDict = false := by simp [qpD, PyData.hasDict, PyData.hasDictAll]
theorem qp_alike (p q : QP) : alike (qpD p) (qpD q) = true := by
  simp [qpD, alike, alikeAll]
theorem qp_depth (p : QP) : (qpD p).depth ≤ 2 := by simp [qpD, PyData.depth, PyData.depthAll]
theorem cr_sortedH {X : Cx} (hu : X.A.units + 64 < cLine) : CallR X (.builtin "sorted") (rSortedH X.K) := by
  intro pins s σ H vs us Q I r h
  obtain ⟨a, xs, ps, F, rfl, hs, hF, hat, q⟩ := h
  obtain ⟨its, rv, hl, hz⟩ := I.list hs
  rw [Vals.ref1 r]
  have e := each_inH rv hat
  have er : EachIs (fun v b => ∃ as, Reads s.heap v (qpD b) as) its ps := e.mono fun v b ⟨x, r1, h1⟩ => At.reads I hF (qpD b) x v (qp_noDict b) h1 r1
  refine sorted_data (enc := qpD) hl.isList e er (AllAlike.of fun _ _ => qp_alike _ _) (Sortable.tuples fun _ => ⟨_, _, rfl⟩) (by have h1 := hat.length; rw [List.length_map] at h1; omega) (fun b _ => by have := qp_depth b; omega) fun out h1 eo => ?_
  obtain ⟨ys, k1, k2⟩ := each_outH eo
  obtain ⟨ep, he'⟩ := PyProof.Rows.sortedAll_at s.heap its out.toArray
  have hlen : ys.length ≤ sizeLine := by
    have h2 := k2.length
    have h3 := hat.length
    rw [List.length_map] at h2 h3
    rw [h2, List.length_mergeSort]
    omega
  exact ⟨.ref _, upd H (s.heap.objs.size + 1) (.lst ys), I.laid (t' := s.toks) (fun _ _ => PyProof.Rows.sortedAll_old) (Nat.le_succ _) ⟨hlen, out, ep, k1, he'⟩, rfl, q _ _ k2 (I.hok.fresh (Nat.le_succ _))⟩
def qpOf : PyData → Option QP
  | .tuple [.int a, .str x] => some (a, x)
  | _ => none
def qpsL : List PyData → Option (List QP)
  | [] => some []
  | d :: ds => match qpOf d, qpsL ds with
    | some p, some ps => some (p :: ps)
    | _, _ => none
theorem qpOf_eq {d : PyData} {p : QP} (h : qpOf d = some p) : d = qpD p := by
  unfold qpOf at h
  split at h
  · cases h
    rfl
  · cases h
theorem qpsL_eq : ∀ {ds : List PyData} {ps : List QP}, qpsL ds = some ps → ds = ps.map qpD
  | [], _, h => by cases h; rfl
  | d :: ds, ps, h => by
    unfold qpsL at h
    split at h
    · rename_i p ps' h1 h2
      cases h
      rw [qpOf_eq h1, qpsL_eq h2]
      rfl
    · cases h
theorem qpOf_cp (p : QP) : qpOf (qpD p) = some p := rfl
theorem qpsL_map : ∀ ps : List QP, qpsL (ps.map qpD) = some ps
  | [] => rfl
  | p :: ps => by
    show (match qpOf (qpD p), qpsL (ps.map qpD) with
      | some p, some ps => some (p :: ps)
      | _, _ => none) = _
    rw [qpsL_map ps, qpOf_cp]
def sortH (ps : List QP) : List QP := ps.mergeSort (dataLe false qpD)
theorem le_trH (a b c : QP) (h1 : dataLe false qpD a b = true) (h2 : dataLe false qpD b c = true) : dataLe false qpD a c = true := by
  have h1 : (!dataLt (qpD b) (qpD a)) = true := h1
  have h2 : (!dataLt (qpD c) (qpD b)) = true := h2
  show (!dataLt (qpD c) (qpD a)) = true
  cases q : dataLt (qpD c) (qpD a) with
  | false => rfl
  | true =>
    rcases PyProof.Rows.lex_negTrans _ (keyToks (qpD b)) _ q with z | z
    · rw [show dataLt (qpD c) (qpD b) = true from z] at h2; cases h2
    · rw [show dataLt (qpD b) (qpD a) = true from z] at h1; cases h1
theorem le_toH (a b : QP) : (dataLe false qpD a b || dataLe false qpD b a) = true := by
  show ((!dataLt (qpD b) (qpD a)) || (!dataLt (qpD a) (qpD b))) = true
  cases q : dataLt (qpD b) (qpD a) with
  | false => rfl
  | true =>
    cases z : dataLt (qpD a) (qpD b) with
    | false => rfl
    | true =>
      unfold dataLt at q z
      have := PyProof.Rows.lex_trans _ _ _ q z
      rw [PyProof.Rows.lex_irrefl] at this
      cases this
theorem sortH_perm {ps : List QP} : (sortH ps).Perm ps := List.mergeSort_perm _ _
theorem sortH_asc {ps : List QP} : (sortH ps).Pairwise fun a b => dataLe false qpD a b = true := List.pairwise_mergeSort le_trH le_toH ps
def oSortH : D1 := fun x R => match x.lst with
  | some ds => match qpsL ds with
    | some ps => R (.own ((sortH ps).map qpD))
    | none => False
  | none => False
theorem on_sortH {X : Cx} : OpN X (rSortedH X.K) (o1 oSortH) := on_1 fun G F δ σ H v x R Q hK g hx h k => by
  unfold oSortH at h
  split at h
  · rename_i ds e
    split at h
    · rename_i ps e2
      obtain ⟨l, vs, rfl, h1, h2⟩ := lst_of hx g.fh e
      rw [qpsL_eq e2] at h2
      refine ⟨l, vs, ps, F, rfl, SqL.of h1, g.fh, by rw [← hK]; exact h2, fun ys p hys hp => ?_⟩
      exact k _ h _ _ _ (g.newO hp (by rw [hK]; exact hys))
    · exact h.elim
  · exact h.elim
theorem oSortH_o {xs : List PyData} {R : DV → Prop} : oSortH (.own xs) R = (match qpsL xs with | some ps => R (.own ((sortH ps).map qpD)) | none => False) := rfl
theorem oSortH_l {xs : List PyData} {R : DV → Prop} : oSortH (.d (.list xs)) R = (match qpsL xs with | some ps => R (.own ((sortH ps).map qpD)) | none => False) := rfl
theorem oSortH_b {xs : List PyData} {R : DV → Prop} : oSortH (.bor xs) R = (match qpsL xs with | some ps => R (.own ((sortH ps).map qpD)) | none => False) := rfl
section
variable {u : Nat} {X : Cx} {W : WC} {e : Expr} {pos p : Pos} {mas : MA}
theorem de_sortedH (cx : CtxU X) (hg : Gl X "sorted") (hm : X.mg "sorted" = none) (ha : DA X W [e] mas u) (he : starEach [e] X.env = (false, eval e X.env) :: starEach [] X.env := by rfl) (hpl : (backTo pos (starEach [] X.env)).any (·.1) = false := by rfl) :
    DE X W (.Call (.Name "sorted" p) [e] [] pos) (mCB (o1 oSortH) mas) u := de_callB (cr_sortedH cx.u64) on_sortH hg hm (by decide +kernel) ha (by decide) (by decide) he hpl
end
end DL

/-! ## a, b = a list -/
namespace DL
open PySem PySem.Spec L2
variable {X : Cx} {dom : List Nat} {pos : Pos}
def gL (gs : List MG) : MG := fun v δ R => match v.lst with
  | some ds => ds.length = gs.length ∧ gsN gs ds δ R
  | none => False
theorem dg_lst {es : List Expr} {k : _} {gs : List MG} (hc : X.calm = true) (h : DGs X es dom gs) (hn : (assignEach es X.env).length = gs.length := by rfl) (hst : (assignEach es X.env).findIdx? (·.1) = none := by rfl) (hK : True := True.intro) :
    DG X (.Tuple es k pos) dom (gL gs) := ⟨PG.imp (pg_lst hc h.pgs hn hst) fun v σ H Q q => by
  obtain ⟨G, F, δ, τ, ts, r, R, kk, l1, l2, g, m, k⟩ := q
  have m : (match r.lst with | some ds => ds.length = gs.length ∧ gsN gs ds δ R | none => False) := m
  split at m
  · rename_i ds e
    obtain ⟨hl, m⟩ := m
    obtain ⟨a, vs, rfl, hs, ha⟩ := lst_of g.top g.fh e
    exact ⟨a, vs, rfl, SqL.of hs, ha.length.trans hl, G, F, δ, τ, ts, ds, R, kk, l1, l2, g.pop, ha, m, k⟩
  · exact m.elim⟩
end DL

/-! ## x == y, also of two empty dicts -/
namespace DL
open PySem PySem.Spec L2
section
variable {X : Cx} {W : WC} {u1 u2 : Nat} {a b : Expr} {pos : Pos} {ma mb : ME}
def rEqK (K : PySem.W.Frag) : R2 := fun x y H Q => (∃ a b, x = .ref a ∧ y = .ref b ∧ Rd H a (.dK []) ∧ Rd H b (.dK []) ∧ Q (.bl true) H) ∨ rEqB K false x y H Q
theorem op_eqK (hu : X.A.units + 64 < cLine) : OpR X (compareOp .Eq) (rEqK X.K) := by
  intro pins s σ H x y v u Q I rx ry h
  rcases h with ⟨a, b, rfl, rfl, ea, eb, q⟩ | h
  · obtain rfl : v = Value.ref a := rx
    obtain rfl : u = Value.ref b := ry
    obtain ⟨_, ya, va, ra, da⟩ := dk_rd I.hok ea
    obtain ⟨_, yb, vb, rb, db⟩ := dk_rd I.hok eb
    have hl : va.length = vb.length := ra.length.symm.trans rb.length
    exact PySem.W.keq_eq (knd := mixKind X.prog X.w) (r := true) ya yb da db (by omega) (fun _ => hits_all rb ra fun p hp => absurd hp List.not_mem_nil) (fin_bl I q (by simp [hl]))
  · exact op_eqB hu pins s σ H x y v u Q I rx ry h
def oEqK : D2 := fun x y R => (x = .d (.dict []) ∧ y = .d (.dict []) ∧ R (.d (.bool true))) ∨ oEq false x y R
theorem o2_eqK : Op2 X (rEqK X.K) oEqK := by
  intro G F δ σ H v u x y R Q hK g hx hy h k
  rcases h with ⟨rfl, rfl, h⟩ | h
  · have hx' : At G.K F v (.dict []) := hx
    have hy' : At G.K F u (.dict []) := hy
    cases hx' with
    | dct h1 h2 =>
      cases h2
      cases hy' with
      | dct h3 h4 =>
        cases h4
        exact .inl ⟨_, _, rfl, rfl, rd_mono g.fh h1, rd_mono g.fh h3, k _ h (.bl _) F H (g.pushD (.bl _))⟩
  · exact .inr (o2_eq G F δ σ H v u x y R Q hK g hx hy h k)
theorem de_eqK (cx : CtxU X) (ha : DE X W a ma u1) (hb : DE X W b mb u2) : DE X W (.Compare a [.Eq] [b] pos) (mBin oEqK ma mb) (u1 + u2) := de_cmp (op_eqK cx.u64) o2_eqK ha hb (nomark _)
end
end DL

local macro_rules | `(tactic| walk_at "dl") => `(tactic| simp only [DL.mChain3, DL.mCallS, DL.mDefS, DL.mKwS, DL.mStar, DL.mIEnumL, DL.mIEnumT, DL.mIZipT, DL.mIZipL, DL.enumD, DL.zipD,
  DL.mTold, DL.mLck, DL.mIItems, DL.mIKeys, DL.mDisp1, DL.mDispI3, DL.mIsi2, DL.num_i, DL.mDPut, DL.oDGet, DL.oDIn, DL.keyD, DL.seen_k, DL.seen_bk, DL.seen_lk, DL.seen_bl, DL.seen_ld, DL.fix_k, DL.fix_bk, DL.isBor_k, DL.isBor_bk, DL.isBor_ld, DL.dic_d, DL.dic_k, DL.dic_bk, DL.dic_bl, DL.dic_ld, DL.key_i, DL.key_s, DL.wlk_b, DL.wlk_l, DL.isLk_d, DL.isLk_o, DL.isOdk_0, DL.isOdk_s, Bool.false_bne, Bool.true_bne, DL.dr_nil, DL.dr_n, DL.dr_d, DL.dr_c, DL.dr_o, DL.dr_b, DL.dr_r, DL.dr_s, DL.mTry, DL.mTryO, DL.mRaise1, DL.mRaise0, DL.mIsX, DL.mCallE, DL.mIsV, DL.mIsXT, DL.mXf, DL.held_e, DL.seen_e, DL.isBor_e, DL.cl_nil, DL.cl_none, DL.cl_d, DL.cl_o, DL.cl_c, DL.oMaxA_t, DL.oMaxA_l, DL.oMaxA_o, DL.oMaxA_b, DL.oMinA_t, DL.oMinA_l, DL.oMinA_o, DL.oMinA_b,
  DL.bodyD, DL.startD, DL.mSeq, DL.mNext, DL.mFrz, DL.mBreak, DL.mCont, DL.mNever, DL.mRet, DL.mRetN, DL.mDrop, DL.mIfS, DL.gN, DL.gsN, DL.gT, DL.gL, DL.mAsg, DL.mPar2, DL.mPar3, DL.mPar4, DL.mAug, 
  DL.mMut, DL.mMutTo, DL.mutRun, DL.isOwnAt, DL.mSto, DL.mCall, DL.argsD, DL.mVar, DL.mC, DL.mRaw, DL.mBin, DL.mB, DL.mChain, DL.mAnd, DL.mOr, DL.mNot, DL.mAndV, DL.mOrV, DL.mNotV, 
  DL.mIf, DL.mNil, DL.mCons, DL.mCB, DL.mTup, DL.mLst, DL.vals, DL.mIL, DL.mIT, DL.mR1, DL.mR2, DL.mR3, DL.mFor, DL.mForN, DL.mLc, DL.mLcN, DL.oLt, DL.oLe, DL.oGt, DL.oGe, DL.mUn, 
  DL.o1, DL.o2, DL.mLR1, DL.mLR2, DL.oSorted, DL.oSortedP, DL.oSortT_t, DL.oSortC_o, DL.oSortH_o, DL.oSortH_l, DL.oSortH_b, DL.oSortC_l, DL.oMaxH_o, DL.oMaxH_l, DL.oMaxH_b, DL.oMinP_o, DL.oInQ_t, DL.oInQ_l, DL.oInQ_o, DL.isStrD, DL.oMinP_l, DL.oMinP_b, DL.oSum, DL.oMax, DL.oMin, DL.mSl, DL.mPN, DL.mPS, DL.mYes, DL.uApp, DL.uIns, DL.uPop, DL.uExt, DL.uExtT, DL.oSortSet, DL.oSortSetL, DL.oEqE_l, DL.oEqE_o, DL.oEqE_b, DL.oNeE_l, DL.oNeE_o, DL.oNeE_b, DL.oEqE_t, DL.oNeE_t, DL.mKL, DL.val_odk, DL.mMeth, DL.oCnt, DL.oIdx, DL.oReprD, DL.mDict0, DL.mDictI, DL.wipeD, DL.seenD, DL.oSub_i, DL.val_d, DL.val_o, 
  DL.seen_d, DL.seen_o, DL.seen_b, DL.seen_c, DL.seen_s, DL.fix_d, DL.fix_o, DL.fix_b, DL.fix_c, DL.isBor_d, DL.isBor_o, DL.isBor_b, DL.isBor_c, DL.isBor_s, DL.tru_b, DL.lst_dl, 
  DL.rd_dl, DL.lst_o, DL.rd_o, DL.lst_b, DL.rd_b, DL.seq_dl, DL.seq_dt, DL.seq_o, DL.seq_b, DL.rd_s, DL.pd_d, DL.pd_o, DL.pd_b, DL.oI_T, DL.oEq_ssf, DL.oEq_ndf, DL.oEq_nof, 
  DL.oEq_nrf, DL.oEq_dnf, DL.oEq_bdf, DL.oEq_bof, DL.oEq_brf, DL.oEq_dbf, DL.oEq_idf, DL.oEq_iof, DL.oEq_irf, DL.oEq_dif, DL.oEq_ldf, DL.oEq_lof, DL.oEq_lrf, DL.oEq_dlf, DL.oEq_tdf, 
  DL.oEq_tof, DL.oEq_trf, DL.oEq_dtf, DL.oEq_kdf, DL.oEq_kof, DL.oEq_krf, DL.oEq_dkf, DL.oEq_odf, DL.oEq_oof, DL.oEq_orf, DL.oEq_dof, DL.oEq_rdf, DL.oEq_rof, DL.oEq_rrf, DL.oEq_drf, 
  DL.oEq_sst, DL.oEq_ndt, DL.oEq_not, DL.oEq_nrt, DL.oEq_dnt, DL.oEq_bdt, DL.oEq_bot, DL.oEq_brt, DL.oEq_dbt, DL.oEq_idt, DL.oEq_iot, DL.oEq_irt, DL.oEq_dit, DL.oEq_ldt, DL.oEq_lot, 
  DL.oEq_lrt, DL.oEq_dlt, DL.oEq_tdt, DL.oEq_tot, DL.oEq_trt, DL.oEq_dtt, DL.oEq_kdt, DL.oEq_kot, DL.oEq_krt, DL.oEq_dkt, DL.oEq_odt, DL.oEq_oot, DL.oEq_ort, DL.oEq_dot, DL.oEq_rdt, 
  DL.oEq_rot, DL.oEq_rrt, DL.oEq_drt, DL.oRepr_d, DL.oRepr_o, DL.oRepr_b, DL.oI_i, DL.oC_i, DL.oAdd_i, DL.oAdd_s, DL.oAdd_t, DL.oAdd_ll, DL.oAdd_lo, DL.oAdd_lb, DL.oAdd_ol, 
  DL.oAdd_oo, DL.oAdd_ob, DL.oAdd_bl, DL.oAdd_bo, DL.oAdd_bb, DL.oMul_i, DL.oMul_l, DL.oMul_o, DL.oMul_b, DL.oNeg_i, DL.oIn_dtf, DL.oIn_dtt, DL.oIn_dlf, DL.oIn_dlt, DL.oIn_dof, 
  DL.oIn_dot, DL.oIn_dbf, DL.oIn_dbt, DL.oIn_otf, DL.oIn_ott, DL.oIn_olf, DL.oIn_olt, DL.oIn_oof, DL.oIn_oot, DL.oIn_obf, DL.oIn_obt, DL.oIn_btf, DL.oIn_btt, DL.oIn_blf, DL.oIn_blt, 
  DL.oIn_bof, DL.oIn_bot, DL.oIn_bbf, DL.oIn_bbt, DL.oIsN_nnf, DL.oIsN_if, DL.oIsN_bf, DL.oIsN_sf, DL.oIsN_tf, DL.oIsN_lf, DL.oIsN_of, DL.oIsN_rf, DL.oIsN_nnt, DL.oIsN_it, DL.oIsN_bt, 
  DL.oIsN_st, DL.oIsN_tt, DL.oIsN_lt, DL.oIsN_ot, DL.oIsN_rt, DL.oIx_t, DL.oLen_t, DL.oList_t, DL.oIx_l, DL.oLen_l, DL.oList_l, DL.oIx_o, DL.oLen_o, DL.oList_o, DL.oIx_b, DL.oLen_b, 
  DL.oList_b, DL.oLen_s, DL.oLen_x, DL.oAbs_i, DL.oMax2_i, DL.oMin2_i, DL.oInt_i, DL.oStr_i, DL.oInt_b, DL.oTuple_t, DL.oTuple_l, DL.oTuple_o, DL.oTuple_b, DL.oInts_l, DL.oInts_o, DL.oInts_b, 
  DL.oIsi_d, DL.oIsi_o, DL.oIsi_b, DL.oSl_t, DL.oSl_l, DL.oSl_o, DL.oSl_b, DL.oSl_s, DL.oBack_t, DL.oBack_l, DL.oBack_o, DL.oBack_b, List.map_cons, List.map_nil, List.length_cons, 
  List.length_nil, List.replicate_succ, List.replicate_zero, List.cons_append, List.nil_append, List.append_nil, DL.ge0, DL.ges, List.set_cons_zero, List.set_cons_succ, Nat.reduceAdd, 
  Nat.reduceSub, Nat.reduceLT, Option.map_some, Option.map_none, and_true, true_and, List.getElem?_nil, forall_const, Bool.not_true, Bool.not_false, DL.at0, DL.at1, DL.at2, DL.at3, DL.at4, DL.at5, 
  Int.toNat_natCast, Int.toNat_one, Int.toNat_zero, DL.all_nil', DL.tf_t, DL.tf_f, DL.tf1, DL.tf2, DL.tf3, DL.tf4])
local macro_rules | `(tactic| walk_at "dx") => `(tactic| simp only [DL.eqv_lr, DL.eqv_rl, DL.eqv_ll, DL.eqv_rr, DL.mChain3, DL.mCallS, DL.mDefS, DL.mKwS, DL.mStar, DL.mIEnumL, DL.mIEnumT, DL.mIZipT, DL.mIZipL, DL.enumD, DL.zipD,
  DL.cp2, DL.pw2, DL.cp3, DL.pw3, DL.cp4, DL.pw4, DL.cp5, DL.pw5, DL.cp6, DL.pw6, DL.cp7, DL.pw7, DL.cp8, DL.pw8, DL.cp9, DL.pw9, DL.cp10, DL.pw10, DL.cp11, DL.pw11, DL.cp12, DL.pw12, DL.cp13, DL.pw13, DL.cp14, DL.pw14, DL.cp15, DL.pw15, DL.cp16, DL.pw16, DL.cp17, DL.pw17, DL.cp18, DL.pw18, DL.cp19, DL.pw19, DL.cp20, DL.pw20, DL.cp21, DL.pw21, DL.cp22, DL.pw22, DL.cp23, DL.pw23, DL.cp24, DL.pw24, DL.cp25, DL.pw25, DL.cp26, DL.pw26, DL.cp27, DL.pw27, DL.cp28, DL.pw28, DL.cp29, DL.pw29, DL.cp30, DL.pw30, DL.cp31, DL.pw31, DL.cp32, DL.pw32, DL.cp33, DL.pw33, DL.cp34, DL.pw34, DL.cp35, DL.pw35, DL.cp36, DL.pw36, DL.cp37, DL.pw37, DL.cp38, DL.pw38, DL.cp39, DL.pw39, DL.cp40, DL.pw40,
  DL.eqv_ii, DL.eqv_bb, DL.shaped_i, DL.shaped_b, DL.shaped_n, DL.shaped_nil, DL.shaped_nilt, DL.if_tt, DL.if_ff, decide_eq_true_eq, decide_eq_false_iff_not, Bool.not_eq_true', Bool.not_eq_false', Int.zero_add, Int.add_zero, ite_true, ite_false, eq_self_iff_true,
  DL.mTold, DL.mLck, DL.mIItems, DL.mIKeys, DL.mDisp1, DL.mDispI3, DL.mIsi2, DL.num_i, DL.mDPut, DL.oDGet, DL.oDIn, DL.keyD, DL.seen_k, DL.seen_bk, DL.seen_lk, DL.seen_bl, DL.seen_ld, DL.fix_k, DL.fix_bk, DL.isBor_k, DL.isBor_bk, DL.isBor_ld, DL.dic_d, DL.dic_k, DL.dic_bk, DL.dic_bl, DL.dic_ld, DL.key_i, DL.key_s, DL.wlk_b, DL.wlk_l, DL.isLk_d, DL.isLk_o, DL.isOdk_0, DL.isOdk_s, Bool.false_bne, Bool.true_bne, DL.dr_nil, DL.dr_n, DL.dr_d, DL.dr_c, DL.dr_o, DL.dr_b, DL.dr_r, DL.dr_s, DL.mTry, DL.mTryO, DL.mRaise1, DL.mRaise0, DL.mIsX, DL.mCallE, DL.mIsV, DL.mIsXT, DL.mXf, DL.held_e, DL.seen_e, DL.isBor_e, DL.cl_nil, DL.cl_none, DL.cl_d, DL.cl_o, DL.cl_c, DL.oMaxA_t, DL.oMaxA_l, DL.oMaxA_o, DL.oMaxA_b, DL.oMinA_t, DL.oMinA_l, DL.oMinA_o, DL.oMinA_b,
  DL.bodyD, DL.startD, DL.mSeq, DL.mNext, DL.mFrz, DL.mBreak, DL.mCont, DL.mNever, DL.mRet, DL.mRetN, DL.mDrop, DL.mIfS, DL.gN, DL.gsN, DL.gT, DL.gL, DL.mAsg, DL.mPar2, DL.mPar3, DL.mPar4, DL.mAug, 
  DL.mMut, DL.mMutTo, DL.mutRun, DL.isOwnAt, DL.mSto, DL.mCall, DL.argsD, DL.mVar, DL.mC, DL.mRaw, DL.mBin, DL.mB, DL.mChain, DL.mAnd, DL.mOr, DL.mNot, DL.mAndV, DL.mOrV, DL.mNotV, 
  DL.mIf, DL.mNil, DL.mCons, DL.mCB, DL.mTup, DL.mLst, DL.vals, DL.mIL, DL.mIT, DL.mR1, DL.mR2, DL.mR3, DL.mFor, DL.mForN, DL.mLc, DL.mLcN, DL.oLt, DL.oLe, DL.oGt, DL.oGe, DL.mUn, 
  DL.o1, DL.o2, DL.mLR1, DL.mLR2, DL.oSorted, DL.oSortedP, DL.oSortT_t, DL.oSortC_o, DL.oSortH_o, DL.oSortH_l, DL.oSortH_b, DL.oSortC_l, DL.oMaxH_o, DL.oMaxH_l, DL.oMaxH_b, DL.oMinP_o, DL.oInQ_t, DL.oInQ_l, DL.oInQ_o, DL.isStrD, DL.oMinP_l, DL.oMinP_b, DL.oSum, DL.oMax, DL.oMin, DL.mSl, DL.mPN, DL.mPS, DL.mYes, DL.uApp, DL.uIns, DL.uPop, DL.uExt, DL.uExtT, DL.oSortSet, DL.oSortSetL, DL.oEqE_l, DL.oEqE_o, DL.oEqE_b, DL.oNeE_l, DL.oNeE_o, DL.oNeE_b, DL.oEqE_t, DL.oNeE_t, DL.mKL, DL.val_odk, DL.mMeth, DL.oCnt, DL.oIdx, DL.oReprD, DL.mDict0, DL.mDictI, DL.wipeD, DL.seenD, DL.oSub_i, DL.val_d, DL.val_o, 
  DL.seen_d, DL.seen_o, DL.seen_b, DL.seen_c, DL.seen_s, DL.fix_d, DL.fix_o, DL.fix_b, DL.fix_c, DL.isBor_d, DL.isBor_o, DL.isBor_b, DL.isBor_c, DL.isBor_s, DL.tru_b, DL.lst_dl, 
  DL.rd_dl, DL.lst_o, DL.rd_o, DL.lst_b, DL.rd_b, DL.seq_dl, DL.seq_dt, DL.seq_o, DL.seq_b, DL.rd_s, DL.pd_d, DL.pd_o, DL.pd_b, DL.oI_T, DL.oEq_ssf, DL.oEq_ndf, DL.oEq_nof, 
  DL.oEq_nrf, DL.oEq_dnf, DL.oEq_bdf, DL.oEq_bof, DL.oEq_brf, DL.oEq_dbf, DL.oEq_idf, DL.oEq_iof, DL.oEq_irf, DL.oEq_dif, DL.oEq_ldf, DL.oEq_lof, DL.oEq_lrf, DL.oEq_dlf, DL.oEq_tdf, 
  DL.oEq_tof, DL.oEq_trf, DL.oEq_dtf, DL.oEq_kdf, DL.oEq_kof, DL.oEq_krf, DL.oEq_dkf, DL.oEq_odf, DL.oEq_oof, DL.oEq_orf, DL.oEq_dof, DL.oEq_rdf, DL.oEq_rof, DL.oEq_rrf, DL.oEq_drf, 
  DL.oEq_sst, DL.oEq_ndt, DL.oEq_not, DL.oEq_nrt, DL.oEq_dnt, DL.oEq_bdt, DL.oEq_bot, DL.oEq_brt, DL.oEq_dbt, DL.oEq_idt, DL.oEq_iot, DL.oEq_irt, DL.oEq_dit, DL.oEq_ldt, DL.oEq_lot, 
  DL.oEq_lrt, DL.oEq_dlt, DL.oEq_tdt, DL.oEq_tot, DL.oEq_trt, DL.oEq_dtt, DL.oEq_kdt, DL.oEq_kot, DL.oEq_krt, DL.oEq_dkt, DL.oEq_odt, DL.oEq_oot, DL.oEq_ort, DL.oEq_dot, DL.oEq_rdt, 
  DL.oEq_rot, DL.oEq_rrt, DL.oEq_drt, DL.oRepr_d, DL.oRepr_o, DL.oRepr_b, DL.oI_i, DL.oC_i, DL.oAdd_i, DL.oAdd_s, DL.oAdd_t, DL.oAdd_ll, DL.oAdd_lo, DL.oAdd_lb, DL.oAdd_ol, 
  DL.oAdd_oo, DL.oAdd_ob, DL.oAdd_bl, DL.oAdd_bo, DL.oAdd_bb, DL.oMul_i, DL.oMul_l, DL.oMul_o, DL.oMul_b, DL.oNeg_i, DL.oIn_dtf, DL.oIn_dtt, DL.oIn_dlf, DL.oIn_dlt, DL.oIn_dof, 
  DL.oIn_dot, DL.oIn_dbf, DL.oIn_dbt, DL.oIn_otf, DL.oIn_ott, DL.oIn_olf, DL.oIn_olt, DL.oIn_oof, DL.oIn_oot, DL.oIn_obf, DL.oIn_obt, DL.oIn_btf, DL.oIn_btt, DL.oIn_blf, DL.oIn_blt, 
  DL.oIn_bof, DL.oIn_bot, DL.oIn_bbf, DL.oIn_bbt, DL.oIsN_nnf, DL.oIsN_if, DL.oIsN_bf, DL.oIsN_sf, DL.oIsN_tf, DL.oIsN_lf, DL.oIsN_of, DL.oIsN_rf, DL.oIsN_nnt, DL.oIsN_it, DL.oIsN_bt, 
  DL.oIsN_st, DL.oIsN_tt, DL.oIsN_lt, DL.oIsN_ot, DL.oIsN_rt, DL.oIx_t, DL.oLen_t, DL.oList_t, DL.oIx_l, DL.oLen_l, DL.oList_l, DL.oIx_o, DL.oLen_o, DL.oList_o, DL.oIx_b, DL.oLen_b, 
  DL.oList_b, DL.oLen_s, DL.oLen_x, DL.oAbs_i, DL.oMax2_i, DL.oMin2_i, DL.oInt_i, DL.oStr_i, DL.oInt_b, DL.oTuple_t, DL.oTuple_l, DL.oTuple_o, DL.oTuple_b, DL.oInts_l, DL.oInts_o, DL.oInts_b, 
  DL.oIsi_d, DL.oIsi_o, DL.oIsi_b, DL.oSl_t, DL.oSl_l, DL.oSl_o, DL.oSl_b, DL.oSl_s, DL.oBack_t, DL.oBack_l, DL.oBack_o, DL.oBack_b, List.map_cons, List.map_nil, List.length_cons, 
  List.length_nil, List.replicate_succ, List.replicate_zero, List.cons_append, List.nil_append, List.append_nil, DL.ge0, DL.ges, List.set_cons_zero, List.set_cons_succ, Nat.reduceAdd, 
  Nat.reduceSub, Nat.reduceLT, Option.map_some, Option.map_none, and_true, true_and, List.getElem?_nil, forall_const, Bool.not_true, Bool.not_false, DL.at0, DL.at1, DL.at2, DL.at3, DL.at4, DL.at5, 
  Int.toNat_natCast, Int.toNat_one, Int.toNat_zero, DL.all_nil', DL.tf_t, DL.tf_f, DL.tf1, DL.tf2, DL.tf3, DL.tf4])
local macro_rules | `(tactic| walk_at "dd") => `(tactic| simp only [decide_eq_true_eq, decide_eq_false_iff_not, Bool.not_eq_true', Bool.not_eq_false', Bool.and_eq_true, Bool.or_eq_true, Bool.and_eq_false_imp, Bool.or_eq_false_iff])
local macro_rules | `(tactic| walk_at "lims") => `(tactic| repeat (refine And.intro (by walk_at "lim") ?_))
local macro_rules | `(tactic| walk_at "db") => `(tactic| simp only [DL.bodyD, DL.startD, List.map_cons, List.map_nil, List.length_cons, List.length_nil, List.replicate_succ, List.replicate_zero, List.cons_append, List.nil_append, List.append_nil, Nat.reduceAdd, Nat.reduceSub])

namespace Lk36
open PySem PySem.Spec L2 DL
def top (i : Nat) : Stmt := PySem.Challenge.pw_toppleline_k36_whole_some_stones_and_pus.main.body.getD i (.Pass ⟨0, 0, 0, 0⟩)
abbrev s_is_integer : Stmt := top 7
abbrev s_right_ends : Stmt := top 8
abbrev s_mirrored : Stmt := top 9
abbrev s_stretches : Stmt := top 10
abbrev s_spans_of : Stmt := top 12
abbrev s_far_ends : Stmt := top 13
abbrev s_are_apart : Stmt := top 14
abbrev s_fewest_for : Stmt := top 15
abbrev s_cover_certificate : Stmt := top 16
abbrev s_fewest_pushes : Stmt := top 17
abbrev s_check_index : Stmt := top 18
abbrev s_best_from : Stmt := top 19
abbrev s_most_felled : Stmt := top 20
abbrev s__law_opened : Stmt := top 22
abbrev s__law_take : Stmt := top 23
abbrev s__law_stones : Stmt := top 24
abbrev s__law_right : Stmt := top 25
abbrev s__law_left : Stmt := top 26
abbrev s__law_pushes : Stmt := top 27
abbrev s__law_ends : Stmt := top 28
abbrev s__law_felled : Stmt := top 29
abbrev s__law_same : Stmt := top 30
abbrev s__law_best : Stmt := top 31
abbrev s__law_growing_right : Stmt := top 32
abbrev s__law_needed : Stmt := top 33
abbrev s__law_some_right : Stmt := top 34
abbrev s_law : Stmt := top 35
theorem sc_is_integer : FnScope ["value", "low", "high"] ["value", "low", "high"] (defScope s_is_integer) := ⟨rfl, rfl, rfl, by decide +kernel, rfl, by decide +kernel, by decide +kernel⟩
theorem sc_right_ends : FnScope ["row", "found", "stone", "last"] ["row"] (defScope s_right_ends) := ⟨rfl, rfl, rfl, by decide +kernel, rfl, by decide +kernel, by decide +kernel⟩
theorem sc_mirrored : FnScope ["row", "total", "place", "height"] ["row"] (defScope s_mirrored) := ⟨rfl, rfl, rfl, by decide +kernel, rfl, by decide +kernel, by decide +kernel⟩
theorem sc_stretches : FnScope ["row", "rights", "lefts", "last", "stone"] ["row"] (defScope s_stretches) := ⟨rfl, rfl, rfl, by decide +kernel, rfl, by decide +kernel, by decide +kernel⟩
theorem sc_spans_of : FnScope ["row", "found", "stone", "left", "right"] ["row"] (defScope s_spans_of) := ⟨rfl, rfl, rfl, by decide +kernel, rfl, by decide +kernel, by decide +kernel⟩
theorem sc_far_ends : FnScope ["row", "spans", "found", "stone", "push", "low", "high"] ["row"] (defScope s_far_ends) := ⟨rfl, rfl, rfl, by decide +kernel, rfl, by decide +kernel, by decide +kernel⟩
theorem sc_are_apart : FnScope ["row", "value", "stone", "spans", "other", "push", "low", "high"] ["row", "value"] (defScope s_are_apart) := ⟨rfl, rfl, rfl, by decide +kernel, rfl, by decide +kernel, by decide +kernel⟩
theorem sc_fewest_for : FnScope ["row", "stones", "stone", "found", "high", "ends"] ["row", "stones"] (defScope s_fewest_for) := ⟨rfl, rfl, rfl, by decide +kernel, rfl, by decide +kernel, by decide +kernel⟩
theorem sc_cover_certificate : FnScope ["row", "cover", "apart", "ends", "stone"] ["row"] (defScope s_cover_certificate) := ⟨rfl, rfl, rfl, by decide +kernel, rfl, by decide +kernel, by decide +kernel⟩
theorem sc_fewest_pushes : FnScope ["row"] ["row"] (defScope s_fewest_pushes) := ⟨rfl, rfl, rfl, by decide +kernel, rfl, by decide +kernel, by decide +kernel⟩
theorem sc_check_index : FnScope ["value", "many"] ["value", "many"] (defScope s_check_index) := ⟨rfl, rfl, rfl, by decide +kernel, rfl, by decide +kernel, by decide +kernel⟩
theorem sc_best_from : FnScope ["row", "many", "ends", "found", "turn", "best", "stone", "high"] ["row", "many"] (defScope s_best_from) := ⟨rfl, rfl, rfl, by decide +kernel, rfl, by decide +kernel, by decide +kernel⟩
theorem sc_most_felled : FnScope ["row", "many", "best", "ends", "stone", "left", "found"] ["row", "many"] (defScope s_most_felled) := ⟨rfl, rfl, rfl, by decide +kernel, rfl, by decide +kernel, by decide +kernel⟩
theorem sc__law_opened : FnScope ["_law_script", "_law_great", "_law_small", "_law_cell"] ["_law_script"] (defScope s__law_opened) := ⟨rfl, rfl, rfl, by decide +kernel, rfl, by decide +kernel, by decide +kernel⟩
theorem sc__law_take : FnScope ["_law_bag", "_law_many", "_law_digit", "_law_turn", "_law_much"] ["_law_bag", "_law_many"] (defScope s__law_take) := ⟨rfl, rfl, rfl, by decide +kernel, rfl, by decide +kernel, by decide +kernel⟩
theorem sc__law_stones : FnScope ["_law_bag", "_law_bound", "_law_wide", "_law_many", "_law_way", "_law_size", "_law_found", "_law_place", "_law_k", "_law_some"] ["_law_bag", "_law_bound", "_law_wide"] (defScope s__law_stones) := ⟨rfl, rfl, rfl, by decide +kernel, rfl, by decide +kernel, by decide +kernel⟩
theorem sc__law_right : FnScope ["_law_row", "_law_stone", "_law_far", "_law_last"] ["_law_row", "_law_stone"] (defScope s__law_right) := ⟨rfl, rfl, rfl, by decide +kernel, rfl, by decide +kernel, by decide +kernel⟩
theorem sc__law_left : FnScope ["_law_row", "_law_stone", "_law_near", "_law_low"] ["_law_row", "_law_stone"] (defScope s__law_left) := ⟨rfl, rfl, rfl, by decide +kernel, rfl, by decide +kernel, by decide +kernel⟩
theorem sc__law_pushes : FnScope ["_law_row", "_law_found", "_law_stone"] ["_law_row"] (defScope s__law_pushes) := ⟨rfl, rfl, rfl, by decide +kernel, rfl, by decide +kernel, by decide +kernel⟩
theorem sc__law_ends : FnScope ["_law_row", "_law_found", "_law_stone"] ["_law_row"] (defScope s__law_ends) := ⟨rfl, rfl, rfl, by decide +kernel, rfl, by decide +kernel, by decide +kernel⟩
theorem sc__law_felled : FnScope ["_law_row", "_law_cover", "_law_names", "_law_ends_here", "_law_found", "_law_spans", "_law_push", "_law_stone", "_law_low", "_law_high"] ["_law_row", "_law_cover"] (defScope s__law_felled) := ⟨rfl, rfl, rfl, by decide +kernel, rfl, by decide +kernel, by decide +kernel⟩
theorem sc__law_same : FnScope ["_law_one", "_law_other", "_law_k"] ["_law_one", "_law_other"] (defScope s__law_same) := ⟨rfl, rfl, rfl, by decide +kernel, rfl, by decide +kernel, by decide +kernel⟩
theorem sc__law_best : FnScope ["_law_ends_here", "_law_many", "_law_bound", "_law_before", "_law_found", "_law_turn", "_law_later", "_law_last", "_law_some", "_law_low", "_law_high"] ["_law_ends_here", "_law_many", "_law_bound"] (defScope s__law_best) := ⟨rfl, rfl, rfl, by decide +kernel, rfl, by decide +kernel, by decide +kernel⟩
theorem sc__law_growing_right : FnScope ["_law_row", "_law_numbers", "_law_best_here", "_law_many", "_law_told", "_law_some"] ["_law_row", "_law_numbers"] (defScope s__law_growing_right) := ⟨rfl, rfl, rfl, by decide +kernel, rfl, by decide +kernel, by decide +kernel⟩
theorem sc__law_needed : FnScope ["_law_row", "_law_some", "_law_ends_here", "_law_last", "_law_count", "_law_stone", "_law_low", "_law_high"] ["_law_row", "_law_some"] (defScope s__law_needed) := ⟨rfl, rfl, rfl, by decide +kernel, rfl, by decide +kernel, by decide +kernel⟩
theorem sc__law_some_right : FnScope ["_law_bag", "_law_row", "_law_a", "_law_b", "_law_c", "_law_d", "_law_e", "_law_f", "_law_g", "_law_k", "_law_pair", "_law_triple", "_law_found", "_law_due", "_law_many", "_law_some"] ["_law_bag", "_law_row"] (defScope s__law_some_right) := ⟨rfl, rfl, rfl, by decide +kernel, rfl, by decide +kernel, by decide +kernel⟩
theorem sc_law : FnScope ["_law_script", "_law_bag", "_law_turn", "_law_row", "_law_again", "_law_spread", "_law_numbers"] ["_law_script"] (defScope s_law) := ⟨rfl, rfl, rfl, by decide +kernel, rfl, by decide +kernel, by decide +kernel⟩
abbrev i_NoStone : Stmt := inClass (top 2) 0
theorem si_NoStone : FnScope ["self", "value"] ["self", "value"] (defScope i_NoStone) := ⟨rfl, rfl, rfl, by decide +kernel, rfl, by decide +kernel, by decide +kernel⟩
theorem ini_NoStone {P : Program} {w : World} {K : PySem.W.Frag} {mg : Str → Option Value} {base : Heap} {C f : Addr} {fd : FuncData} (F : L2.Fun K "__init__" "NoStone.__init__" i_NoStone f fd) (hO : OexC K C) (hno : PySem.W.findIn K (.ref C) "value" = some none) : FnOk P w K mg base L2.CX0 1 f fd ["self", "value"] (spInit K C "value") :=
  F.ok si_NoStone (fun vs H Q E h => by obtain ⟨a, y, rfl, _⟩ := h; rfl) fun cdv A outer s H vs Q E hr h => ⟨_, pss_one (ps_ost (pv 0) (pv 1)), init_read hO hno rfl h⟩
abbrev i_NoIndex : Stmt := inClass (top 3) 0
theorem si_NoIndex : FnScope ["self", "index"] ["self", "index"] (defScope i_NoIndex) := ⟨rfl, rfl, rfl, by decide +kernel, rfl, by decide +kernel, by decide +kernel⟩
theorem ini_NoIndex {P : Program} {w : World} {K : PySem.W.Frag} {mg : Str → Option Value} {base : Heap} {C f : Addr} {fd : FuncData} (F : L2.Fun K "__init__" "NoIndex.__init__" i_NoIndex f fd) (hO : OexC K C) (hno : PySem.W.findIn K (.ref C) "index" = some none) : FnOk P w K mg base L2.CX0 1 f fd ["self", "index"] (spInit K C "index") :=
  F.ok si_NoIndex (fun vs H Q E h => by obtain ⟨a, y, rfl, _⟩ := h; rfl) fun cdv A outer s H vs Q E hr h => ⟨_, pss_one (ps_ost (pv 0) (pv 1)), init_read hO hno rfl h⟩
structure Txt (K : PySem.W.Frag) (mg : Str → Option Value) : Prop where
  n_abs : mg "abs" = none
  n_all : mg "all" = none
  n_any : mg "any" = none
  n_bool : mg "bool" = none
  n_enumerate : mg "enumerate" = none
  n_int : mg "int" = none
  n_isinstance : mg "isinstance" = none
  n_len : mg "len" = none
  n_list : mg "list" = none
  n_max : mg "max" = none
  n_min : mg "min" = none
  n_range : mg "range" = none
  n_set : mg "set" = none
  n_sorted : mg "sorted" = none
  n_str : mg "str" = none
  n_tuple : mg "tuple" = none
  n_zip : mg "zip" = none
  c_LEFT : ∃ t, mg "LEFT" = some (.str "left" t)
  c_RIGHT : ∃ t, mg "RIGHT" = some (.str "right" t)
/-- the bag stands at c: a large number, a small one, how many were drawn -/
def bagK (g s d : Int) : List (Key × V) := [(.inr "great", .int g), (.inr "small", .int s), (.inr "drawn", .int d)]
def BagAt (c : Addr) (n : Nat) (H : Hp) : Prop := ∃ (g s d : Int), H c = some (.dK (bagK g s d)) ∧ 0 ≤ s ∧ s < 2 ^ 63 ∧ 0 ≤ d ∧ d ≤ n
def CK : CKT := fun C cv J lim => ∃ c, C = (fun p => p = c) ∧ cv = .ref c ∧ J = BagAt c ∧ lim = 2 ^ 40
def spBag (K : PySem.W.Frag) : Sp := fun vs H Q _ => ∃ (a : Addr) (ns : List Int), vs = [.ref a] ∧ ns.length ≤ 63 ∧ SqL K H a (ns.map V.int) ∧ ∀ c H', BagAt c 0 H' → Q (.ref c) H'
def mf__law_take : MF := fun as R _ => ∃ m : Int, as = [.cask, .d (.int m)] ∧ 0 < m ∧ m ≤ 2 ^ 100 ∧ ∀ r, 0 ≤ r → r < m → R (.d (.int r))
def spLaw (K : PySem.W.Frag) : Sp := fun vs H Q _ => ∃ (a : Addr) (ns : List Int), vs = [.ref a] ∧ ns.length ≤ 63 ∧ SqL K H a (ns.map V.int) ∧ ∀ H', Q (.bl true) H'
theorem law_ok {K : PySem.W.Frag} {H : Hp} {a : Addr} {ns : List Int} (hl : ns.length ≤ 63) (hS : SqL K H a (ns.map V.int)) : spLaw K [.ref a] H (fun v _ => v = .bl true) fun _ _ _ => False := ⟨a, ns, rfl, hl, hS, fun _ => rfl⟩
structure DBag (P : Program) (w : World) (K : PySem.W.Frag) (mg : Str → Option Value) (base : Heap) : Prop where
  ex : ∃ f fd ps, mg "_law_opened" = some (.ref f) ∧ PySem.W.keepIn K (.ref f) = true ∧ Binds K fd ps [] ∧ ps.length = 1 ∧ FnG P w K mg base 1 f fd ps (spBag K)
section
variable {P : Program} {w : World} {K : PySem.W.Frag} {mg : Str → Option Value} {base : Heap} 
def isInt (v : PyData) (lo hi : Int) : Bool := match v with
  | .int i => decide (lo ≤ i) && decide (i ≤ hi)
  | _ => false
def mf_is_integer : MF := fun as R _ => ∃ (v : PyData) (lo hi : Int), as = [.d v, .d (.int lo), .d (.int hi)] ∧ R (.d (.bool (isInt v lo hi)))
theorem d_is_integer {f : Addr} {fd : FuncData} (T : Txt K mg) (hm : mg "is_integer" = some (.ref f)) (F0 : L2.Fun K "is_integer" "is_integer" s_is_integer f fd) (hb : Binds K fd ["value", "low", "high"] []) : DFn P w K mg base CK "is_integer" 1 0 3 mf_is_integer :=
  (dfn_of hm F0 hb sc_is_integer (fun cdv A outer s H E cx =>
 (dss_one (ds_ret (de_and (de_isi (by rfl) T.n_isinstance (da_cons (de_pv 0) (da_cons (de_ty (T := "int") (by rfl) T.n_int (by decide +kernel)) da_nil))) (de_and (de_not (de_isi (by rfl) T.n_isinstance (da_cons (de_pv 0) (da_cons (de_ty (T := "bool") (by rfl) T.n_bool (by decide +kernel)) da_nil)))) (de_one (de_ch op_le op_le (de_pv 1) (de_pv 0) (de_pv 2))))))))
  (by
    rintro as R ex hl ⟨v, lo, hi, rfl, h⟩
    walk_at "dl"
    refine ⟨by decide, fun c => ⟨by decide, fun c2 => ?_, fun c2 => ?_⟩, fun c => ?_⟩
    · cases v with
      | int i =>
        walk_at "dl"
        refine if_dec (fun c3 => ?_) fun c3 => ?_
        · have e : isInt (.int i) lo hi = decide (i ≤ hi) := by simp [isInt, c3]
          rw [e] at h; exact h
        · have e : isInt (.int i) lo hi = false := by simp [isInt, c3]
          rw [e] at h; exact h
      | bool b => simp [isTy] at c2
      | none => simp [isTy] at c
      | str _ => simp [isTy] at c
      | list _ => simp [isTy] at c
      | tuple _ => simp [isTy] at c
      | dict _ => simp [isTy] at c
    · cases v with
      | int i => simp [isTy] at c2
      | bool b => exact h
      | none => simp [isTy] at c
      | str _ => simp [isTy] at c
      | list _ => simp [isTy] at c
      | tuple _ => simp [isTy] at c
      | dict _ => simp [isTy] at c
    · cases v with
      | int i => simp [isTy] at c
      | bool b => exact h
      | none => exact h
      | str _ => exact h
      | list _ => exact h
      | tuple _ => exact h
      | dict _ => exact h)).le (by decide +kernel)
def mf_right_ends : MF := fun as R _ => ∃ l : SRow, as = [.d (rowD l)] ∧ Inc l ∧ R (.d (.list ((ends l).map natD)))
theorem d_right_ends {f : Addr} {fd : FuncData} (T : Txt K mg) (hm : mg "right_ends" = some (.ref f)) (F0 : L2.Fun K "right_ends" "right_ends" s_right_ends f fd) (hb : Binds K fd ["row"] []) : DFn P w K mg base CK "right_ends" 1 0 1 mf_right_ends :=
  (dfn_of hm F0 hb sc_right_ends (fun cdv A outer s H E cx =>
 (dss_cons (ds_set (i := 1) sc_right_ends.nd rfl (by first | exact Or.inl rfl | exact Or.inr rfl) (de_mul (de_lst (da_cons de_int da_nil)) (de_len (by rfl) T.n_len (da_cons (de_pv 0) da_nil))))
 (dss_cons (ds_for (Ctx.passes rfl) (by rfl) (di_range3 (by rfl) T.n_range (da_cons (de_sub (de_len (by rfl) T.n_len (da_cons (de_pv 0) da_nil)) de_int) (da_cons (de_neg de_int) (da_cons (de_neg de_int) da_nil)))) (dg_name (i := 2) sc_right_ends.nd rfl (by first | exact Or.inl rfl | exact Or.inr rfl)) (dss_cons (ds_set (i := 3) sc_right_ends.nd rfl (by first | exact Or.inl rfl | exact Or.inr rfl) (de_pv 2))
 (dss_cons (ds_while (Ctx.passes rfl) (DW.dt (dw_and (dt_lt (de_add (de_pv 3) de_int) (de_len (by rfl) T.n_len (da_cons (de_pv 0) da_nil))) (dw_and1 (dt_le (de_ix (de_ix (de_pv 0) (de_add (de_pv 3) de_int)) de_int) (de_add (de_ix (de_ix (de_pv 0) (de_pv 2)) de_int) (de_ix (de_ix (de_pv 0) (de_pv 2)) de_int)))))) (dss_one (ds_set (i := 3) sc_right_ends.nd rfl (by first | exact Or.inl rfl | exact Or.inr rfl) (de_ix (de_pv 1) (de_add (de_pv 3) de_int)))))
 (dss_one (ds_sto (pv 1) (de_pv 2) (de_pv 3))))))
 (dss_one (ds_ret (de_pv 1))))))
  (by
    rintro as R ex hl ⟨l, rfl, I, h⟩
    unfold rowD
    walk_at "dl"
    have hn1 := I.n1
    have hn0 := I.n0
    rw [List.length_map]
    refine ⟨by walk_at "lim", by walk_at "lim", by walk_at "lim", ?_⟩
    have hdown : ((l.length : Nat) : Int) - 1 - -1 = (l.length : Nat) := by omega
    rw [hdown]
    walk_at "dl"
    refine ⟨by walk_at "lim", by walk_at "lim", ?_⟩
    refine for_down (fun k δ => ∃ (fs : List Nat) (a b : Option DV), δ = [some (.d (.tuple (l.map stD))), some (.own (fs.map natD)), a, b] ∧ fs.length = l.length ∧ ∀ s m, l.length - k ≤ s → fs[s]? = some m → IsEnd l s m) ?_ ?_ ?_
    · refine ⟨List.replicate l.length 0, none, none, ?_, by simp, fun s m hs e => ?_⟩
      · have : (List.replicate l.length [PyData.int 0]).flatten = (List.replicate l.length 0).map natD := by
          rw [List.map_replicate]
          generalize l.length = n
          induction n with
          | zero => rfl
          | succ n ih => rw [List.replicate_succ, List.flatten_cons, ih, List.replicate_succ]; rfl
        rw [this]
      · rw [List.getElem?_replicate] at e
        split at e
        · omega
        · cases e
    · rintro δ ⟨fs, a, b, rfl, hf, hs⟩
      walk_at "dl"
      rw [AllEnds.eq I (fs := fs) ⟨hf, fun s m e => hs s m (by omega) e⟩]
      exact h
    · rintro k δ K hk ⟨fs, a, b, rfl, hf, hs⟩ hK
      walk_at "dl"
      obtain ⟨s, hs'⟩ : ∃ s : Nat, s = l.length - 1 - k := ⟨_, rfl⟩
      have es : ((l.length : Nat) : Int) - 1 - (k : Nat) = (s : Nat) := by omega
      rw [es]
      refine ⟨fun n δ => ∃ m : Nat, δ = [some (.d (.tuple (l.map stD))), some (.own (fs.map natD)), some (.d (.int (s : Nat))), some (.d (.int (m : Nat)))] ∧ Seek l s m ∧ n = l.length - m, ⟨_, s, rfl, Seek.start (by omega), rfl⟩, ?_⟩
      rintro n δ ⟨m, rfl, hsk, rfl⟩
      have hm := hsk.lt
      have fin : (m + 1 < l.length → pl l s + ht l s < pl l (m + 1)) → K [some (.d (.tuple (l.map stD))), some (.own ((fs.map natD).set s (.int (m : Nat)))), some (.d (.int (s : Nat))), some (.d (.int (m : Nat)))] := fun hq => by
        refine hK _ ⟨fs.set s m, _, _, by rw [List.map_set]; rfl, by simpa using hf, fun s' m' h1 e => ?_⟩
        rcases Nat.lt_or_ge s s' with q | q
        · rw [List.getElem?_set_ne (by omega)] at e
          exact hs s' m' (by omega) e
        · have : s' = s := by omega
          subst this
          rw [List.getElem?_set_self (by omega)] at e
          cases e
          exact hsk.done hq
      have hss : s < (fs.map natD).length := by rw [List.length_map]; omega
      walk_at "dl"
      rw [List.length_map, ixN_nat hss]
      refine if_dec (fun c1 => ?_) fun c1 => ?_
      · have hm1 : m + 1 < l.length := by omega
        rw [atI_row (m + 1) (by omega) hm1, atI_row s rfl (by omega)]
        walk_at "dl"
        refine if_dec (fun c2 => ?_) fun c2 => fin fun _ => by omega
        obtain ⟨e, he⟩ : ∃ e, fs[m + 1]? = some e := ⟨_, List.getElem?_eq_getElem (by omega)⟩
        rw [atI_map (m + 1) (by omega) he]
        have hE := hs (m + 1) e (by have := hsk.le; omega) he
        exact ⟨l.length - e, by have := hE.le; have := hE.lt; omega, e, rfl, hsk.step I c2 hE, rfl⟩
      · walk_at "dl"
        exact fin fun hq => absurd hq (by omega))).le (by decide +kernel)
def mf_mirrored : MF := fun as R _ => ∃ l : SRow, as = [.d (rowD l)] ∧ 0 < l.length ∧ l.length ≤ 1000 ∧ R (.d (rowD (mirror l)))
theorem d_mirrored {f : Addr} {fd : FuncData} (T : Txt K mg) (hm : mg "mirrored" = some (.ref f)) (F0 : L2.Fun K "mirrored" "mirrored" s_mirrored f fd) (hb : Binds K fd ["row"] []) : DFn P w K mg base CK "mirrored" 1 0 1 mf_mirrored :=
  (dfn_of hm F0 hb sc_mirrored (fun cdv A outer s H E cx =>
 (dss_cons (ds_set (i := 1) sc_mirrored.nd rfl (by first | exact Or.inl rfl | exact Or.inr rfl) (de_add (de_ix (de_ix (de_pv 0) de_int) de_int) (de_ix (de_ix (de_pv 0) (de_neg de_int)) de_int)))
 (dss_one (ds_ret (de_tupleC (by rfl) T.n_tuple (da_cons (de_lc (own := [("place", 2), ("height", 3)]) (dom := [2, 3]) (by rfl) sc_mirrored.nd (di_tup (de_back (de_pv 0))) (blkOk_by (by kernel_rfl)) (by decide) (fun _ _ _ _ _ => (dg_tup (by rfl) (dgs_cons (dg_name (i := 2) sc_mirrored.nd rfl (by first | exact Or.inl rfl | exact Or.inr rfl)) (dgs_cons (dg_name (i := 3) sc_mirrored.nd rfl (by first | exact Or.inl rfl | exact Or.inr rfl)) dgs_nil)))) (fun _ _ _ _ _ => dts_nil) (fun _ _ _ _ _ => (de_tup (da_cons (de_sub (de_pv 1) (de_pv 2)) (da_cons (de_pv 3) da_nil))))) da_nil))))))
  (by
    rintro as R ex hl ⟨l, rfl, hn0, hn1, h⟩
    unfold rowD
    walk_at "dl"
    have hlast : l[l.length - 1]? = some (pl l (l.length - 1), ht l (l.length - 1)) := by
      unfold pl ht
      rw [List.getD_eq_getElem?_getD, List.getElem?_eq_getElem (by omega)]
      rfl
    rw [atI_row (i := 0) 0 rfl (by omega), atI_end hlast]
    unfold stD
    walk_at "dl"
    refine lc_ind (fun d => match d with
      | .tuple [.int a, .int b] => some (stD (pl l 0 + pl l (l.length - 1) - a, b))
      | _ => none) _ _ (fun d hd K1 K0 h1 h0 => ?_) (by walk_at "lim") ?_
    · obtain ⟨p, hp, rfl⟩ := List.mem_map.mp (List.mem_reverse.mp hd)
      walk_at "dl"
      refine ⟨by decide, ?_⟩
      exact h1 _ rfl
    · walk_at "dl"
      have e : ((l.map fun p => PyData.tuple [.int p.1, .int p.2]).reverse.filterMap fun d => match d with
          | .tuple [.int a, .int b] => some (stD (pl l 0 + pl l (l.length - 1) - a, b))
          | _ => none) = (mirror l).map stD := by
        unfold mirror
        rw [← List.map_reverse, List.filterMap_map, List.map_map]
        generalize l.reverse = r
        induction r with
        | nil => rfl
        | cons a r ih => simp only [List.filterMap_cons, List.map_cons, Function.comp] at ih ⊢; rw [ih]
      rw [e]
      exact h)).le (by decide +kernel)
noncomputable def spanD (l : SRow) (s : Nat) : PyData := .tuple [.tuple [.int (startOf l s : Nat), .int (s : Nat)], .tuple [.int (s : Nat), .int (endOf l s : Nat)]]
noncomputable def spansD (l : SRow) : PyData := .tuple ((List.range l.length).map (spanD l))
def mf_stretches : MF := fun as R _ => ∃ l : SRow, as = [.d (rowD l)] ∧ Inc l ∧ R (.d (spansD l))
theorem ends_at {l : SRow} {s : Nat} (h : s < l.length) : atI ((ends l).map natD) (s : Nat) = some (.int (endOf l s : Nat)) := atI_map (f := natD) s rfl (ends_get h)
theorem starts_at {l : SRow} {s : Nat} (h : s < l.length) : atI ((ends (mirror l)).map natD).reverse (s : Nat) = some (.int (endOf (mirror l) (l.length - 1 - s) : Nat)) := by
  rw [← List.map_reverse]
  refine atI_map (f := natD) s rfl ?_
  have hl : (ends (mirror l)).length = l.length := by rw [ends_len, mirror_len]
  rw [List.getElem?_reverse (by rw [hl]; exact h), hl, ends_get (by rw [mirror_len]; omega)]
theorem d_stretches {f : Addr} {fd : FuncData} (T : Txt K mg) (hm : mg "stretches" = some (.ref f)) (F0 : L2.Fun K "stretches" "stretches" s_stretches f fd) (hb : Binds K fd ["row"] []) (F_right_ends : DFn P w K mg base CK "right_ends" 1 0 1 mf_right_ends) (F_mirrored : DFn P w K mg base CK "mirrored" 1 0 1 mf_mirrored) : DFn P w K mg base CK "stretches" 2 0 1 mf_stretches :=
  (dfn_of hm F0 hb sc_stretches (fun cdv A outer s H E cx =>
 (dss_cons (ds_tup2 (i := 1) (j := 2) (by rfl) sc_stretches.nd rfl rfl (by decide) (by first | exact Or.inl rfl | exact Or.inr rfl) (by first | exact Or.inl rfl | exact Or.inr rfl) (da_cons (de_call cx F_right_ends (by decide) (by rfl) (da_cons (de_pv 0) da_nil)) (da_cons (de_back (de_call cx F_right_ends (by decide) (by rfl) (da_cons (de_call cx F_mirrored (by decide) (by rfl) (da_cons (de_pv 0) da_nil)) da_nil))) da_nil)))
 (dss_cons (ds_set (i := 3) sc_stretches.nd rfl (by first | exact Or.inl rfl | exact Or.inr rfl) (de_sub (de_len (by rfl) T.n_len (da_cons (de_pv 0) da_nil)) de_int))
 (dss_one (ds_ret (de_tupleC (by rfl) T.n_tuple (da_cons (de_lc (own := [("stone", 4)]) (dom := [4]) (by rfl) sc_stretches.nd (di_range1 (by rfl) T.n_range (da_cons (de_len (by rfl) T.n_len (da_cons (de_pv 0) da_nil)) da_nil)) (blkOk_by (by kernel_rfl)) (by decide) (fun _ _ _ _ _ => (dg_name (i := 4) sc_stretches.nd rfl (by first | exact Or.inl rfl | exact Or.inr rfl))) (fun _ _ _ _ _ => dts_nil) (fun _ _ _ _ _ => (de_tup (da_cons (de_tup (da_cons (de_sub (de_pv 3) (de_ix (de_pv 2) (de_pv 4))) (da_cons (de_pv 4) da_nil))) (da_cons (de_tup (da_cons (de_pv 4) (da_cons (de_ix (de_pv 1) (de_pv 4)) da_nil))) da_nil))))) da_nil)))))))
  (by
    rintro as R ex hl ⟨l, rfl, I, h⟩
    have hn0 := I.n0
    have hn1 := I.n1
    walk_at "dl"
    refine ⟨l, rfl, I, ?_⟩
    walk_at "dl"
    refine ⟨l, rfl, hn0, hn1, ?_⟩
    walk_at "dl"
    refine ⟨mirror l, rfl, I.mirror, ?_⟩
    unfold rowD
    walk_at "dl"
    rw [List.length_map]
    refine ⟨by walk_at "lim", by walk_at "lim", ?_⟩
    refine lc_ind (fun d => match d with
      | .int i => some (spanD l i.toNat)
      | _ => none) _ _ (fun d hd K1 K0 h1 h0 => ?_) (by rw [rangeD_len]; walk_at "lim") ?_
    · obtain ⟨s, hs, rfl⟩ := mem_range_int.mp hd
      rw [Int.zero_add]
      walk_at "dl"
      rw [starts_at hs, ends_at hs]
      walk_at "dl"
      refine ⟨by walk_at "lim", by walk_at "lim", by walk_at "lim", ?_⟩
      have hE := (endOf_ok I.mirror (s := l.length - 1 - s) (by rw [mirror_len]; omega)).lt
      rw [mirror_len] at hE
      have e : ((l.length : Nat) : Int) - 1 - (endOf (mirror l) (l.length - 1 - s) : Nat) = (startOf l s : Nat) := by
        unfold startOf
        omega
      rw [e]
      refine h1 _ ?_
      show some (spanD l ((0 : Int) + (s : Nat)).toNat) = _
      rw [Int.zero_add, Int.toNat_natCast]
      rfl
    · walk_at "dl"
      have e : (rangeD 0 l.length).filterMap (fun d => match d with
          | .int i => some (spanD l i.toNat)
          | _ => none) = (List.range l.length).map (spanD l) := by
        unfold rangeD
        rw [List.filterMap_map]
        generalize List.range l.length = r
        induction r with
        | nil => rfl
        | cons a r ih =>
          simp only [List.filterMap_cons, List.map_cons, Function.comp, Int.zero_add, Int.toNat_natCast] at ih ⊢
          rw [ih]
      rw [e]
      exact h)).le (by decide +kernel)
/-! the greedy walk over far ends -/
def gr (f : Nat → Nat) (n : Nat) : Nat → Nat → Nat
  | 0, _ => 0
  | F + 1, i => if i < n then 1 + gr f n F (f i + 1) else 0
theorem gr_le {f f' : Nat → Nat} {n : Nat} (h1 : ∀ i, i < n → i ≤ f i) (h2 : ∀ i, i < n → i ≤ f' i) (hm : ∀ i j, i ≤ j → j < n → f i ≤ f' j) : ∀ (F F' i j : Nat), i ≤ j → n - i ≤ F → n - j ≤ F' → gr f' n F' j ≤ gr f n F i
  | 0, F', i, j, hij, hF, hF' => by
    cases F' with
    | zero => exact Nat.le_refl _
    | succ F' =>
      unfold gr
      rw [if_neg (by omega)]
      exact Nat.zero_le _
  | F + 1, F', i, j, hij, hF, hF' => by
    cases F' with
    | zero => exact Nat.zero_le _
    | succ F' =>
      unfold gr
      by_cases c : j < n
      · rw [if_pos c, if_pos (by omega)]
        have := h1 i (by omega)
        have := h2 j c
        have := hm i j hij c
        exact Nat.add_le_add_left (gr_le h1 h2 hm F F' _ _ (by omega) (by omega) (by omega)) 1
      · rw [if_neg c]
        exact Nat.zero_le _
/-- one stone more at p: behind it nothing is worse -/
theorem gr_ins1 {f f' : Nat → Nat} {n p : Nat} (h1 : ∀ i, i < n → i ≤ f i) (h2 : ∀ i, i < n + 1 → i ≤ f' i) (hm : ∀ i j, p ≤ i → i + 1 ≤ j → j < n + 1 → f i + 1 ≤ f' j) : ∀ (F F' i j : Nat), p ≤ i → i + 1 ≤ j → n - i ≤ F → n + 1 - j ≤ F' → gr f' (n + 1) F' j ≤ gr f n F i
  | 0, F', i, j, hp, hij, hF, hF' => by
    cases F' with
    | zero => exact Nat.le_refl _
    | succ F' =>
      unfold gr
      rw [if_neg (by omega)]
      exact Nat.zero_le _
  | F + 1, F', i, j, hp, hij, hF, hF' => by
    cases F' with
    | zero => exact Nat.zero_le _
    | succ F' =>
      unfold gr
      by_cases c : j < n + 1
      · rw [if_pos c, if_pos (by omega)]
        have := h1 i (by omega)
        have := h2 j c
        have := hm i j hp hij c
        exact Nat.add_le_add_left (gr_ins1 h1 h2 hm F F' _ _ (by omega) (by omega) (by omega) (by omega)) 1
      · rw [if_neg c]
        exact Nat.zero_le _
def iota (p i : Nat) : Nat := if i < p then i else i + 1
theorem gr_ins {f f' : Nat → Nat} {n p : Nat} (h1 : ∀ i, i < n → i ≤ f i) (h2 : ∀ i, i < n + 1 → i ≤ f' i) (hpn : p ≤ n) (hm : ∀ i j, i < n → iota p i ≤ j → j < n + 1 → iota p (f i) ≤ f' j) : ∀ (F F' i j : Nat), i ≤ p → i ≤ j → n - i ≤ F → n + 1 - j ≤ F' → gr f' (n + 1) F' j ≤ gr f n F i + 1 := by
  have hm1 : ∀ i j, p ≤ i → i + 1 ≤ j → j < n + 1 → f i + 1 ≤ f' j := fun i j a b c => by
    have h := hm i j (by omega) (by unfold iota; rw [if_neg (by omega)]; exact b) c
    have := h1 i (by omega)
    unfold iota at h
    rw [if_neg (by omega)] at h
    exact h
  intro F
  induction F with
  | zero =>
    intro F' i j hip hij hF hF'
    cases F' with
    | zero => exact Nat.zero_le _
    | succ F' =>
      unfold gr
      by_cases c : j < n + 1
      · rw [if_pos c]
        have := h2 j c
        have := gr_ins1 h1 h2 hm1 0 F' i (f' j + 1) (by omega) (by omega) (by omega) (by omega)
        rw [show gr f n 0 i = 0 from rfl] at this
        omega
      · rw [if_neg c]
        exact Nat.zero_le _
  | succ F ih =>
    intro F' i j hip hij hF hF'
    cases F' with
    | zero => exact Nat.zero_le _
    | succ F' =>
      by_cases c : j < n + 1
      · have hj := h2 j c
        rcases Nat.lt_or_ge i p with q | q
        · have e1 : gr f n (F + 1) i = 1 + gr f n F (f i + 1) := by
            conv => lhs; unfold gr
            rw [if_pos (by omega)]
          have e2 : gr f' (n + 1) (F' + 1) j = 1 + gr f' (n + 1) F' (f' j + 1) := by
            conv => lhs; unfold gr
            rw [if_pos c]
          have hi := h1 i (by omega)
          have h := hm i j (by omega) (by unfold iota; rw [if_pos q]; exact hij) c
          rw [e1, e2]
          rcases Nat.lt_or_ge (f i) p with r | r
          · unfold iota at h
            rw [if_pos r] at h
            have := ih F' (f i + 1) (f' j + 1) (by omega) (by omega) (by omega) (by omega)
            omega
          · unfold iota at h
            rw [if_neg (by omega)] at h
            have := gr_ins1 h1 h2 hm1 F F' (f i + 1) (f' j + 1) (by omega) (by omega) (by omega) (by omega)
            omega
        · have e2 : gr f' (n + 1) (F' + 1) j = 1 + gr f' (n + 1) F' (f' j + 1) := by
            conv => lhs; unfold gr
            rw [if_pos c]
          rw [e2]
          have := gr_ins1 h1 h2 hm1 (F + 1) F' i (f' j + 1) q (by omega) (by omega) (by omega)
          omega
      · unfold gr
        rw [if_neg c]
        exact Nat.zero_le _
/-! the stretches of a row, and the far end over a stone -/
noncomputable def spN (l : SRow) : List (Nat × Nat) := (List.range l.length).flatMap fun s => [(startOf l s, s), (s, endOf l s)]
noncomputable def overN (l : SRow) (i : Nat) : List Nat := ((spN l).filter fun q => decide (q.1 ≤ i) && decide (i ≤ q.2)).map (·.2)
noncomputable def farE (l : SRow) (i : Nat) : Nat := (overN l i).foldl max 0
noncomputable def fewN (l : SRow) : Nat := gr (farE l) l.length l.length 0
theorem fold_max : ∀ (xs : List Nat) (a : Nat), (∀ x ∈ xs, x ≤ xs.foldl max a) ∧ a ≤ xs.foldl max a ∧ (xs.foldl max a = a ∨ xs.foldl max a ∈ xs)
  | [], a => ⟨by simp, Nat.le_refl _, .inl rfl⟩
  | x :: xs, a => by
    obtain ⟨h1, h2, h3⟩ := fold_max xs (max a x)
    rw [List.foldl_cons]
    refine ⟨fun y hy => ?_, by omega, ?_⟩
    · rcases List.mem_cons.mp hy with rfl | hy
      · omega
      · exact h1 y hy
    · rcases h3 with h3 | h3
      · rcases Nat.le_total a x with q | q
        · exact .inr (by rw [h3, Nat.max_eq_right q]; exact List.mem_cons_self)
        · exact .inl (by rw [h3, Nat.max_eq_left q])
      · exact .inr (List.mem_cons_of_mem _ h3)
theorem sp_mem {l : SRow} {q : Nat × Nat} : q ∈ spN l ↔ ∃ s, s < l.length ∧ (q = (startOf l s, s) ∨ q = (s, endOf l s)) := by
  unfold spN
  simp only [List.mem_flatMap, List.mem_range, List.mem_cons, List.not_mem_nil, or_false]
theorem over_mem {l : SRow} {i m : Nat} : m ∈ overN l i ↔ ∃ q ∈ spN l, q.1 ≤ i ∧ i ≤ q.2 ∧ q.2 = m := by
  unfold overN
  simp only [List.mem_map, List.mem_filter, Bool.and_eq_true, decide_eq_true_eq]
  constructor
  · rintro ⟨q, ⟨h1, h2, h3⟩, h4⟩
    exact ⟨q, h1, h2, h3, h4⟩
  · rintro ⟨q, h1, h2, h3, h4⟩
    exact ⟨q, ⟨h1, h2, h3⟩, h4⟩
theorem far_ge {l : SRow} {i : Nat} {q : Nat × Nat} (hq : q ∈ spN l) (h1 : q.1 ≤ i) (h2 : i ≤ q.2) : q.2 ≤ farE l i :=
  (fold_max (overN l i) 0).1 _ (over_mem.mpr ⟨q, hq, h1, h2, rfl⟩)
theorem far_own {l : SRow} (I : Inc l) {i : Nat} (hi : i < l.length) : i ≤ farE l i := by
  have h := endOf_ok I hi
  exact Nat.le_trans h.le (far_ge (q := (i, endOf l i)) (sp_mem.mpr ⟨i, hi, .inr rfl⟩) (Nat.le_refl _) h.le)
theorem far_ex {l : SRow} (I : Inc l) {i : Nat} (hi : i < l.length) : ∃ q ∈ spN l, q.1 ≤ i ∧ i ≤ q.2 ∧ q.2 = farE l i := by
  have h := endOf_ok I hi
  have hm : endOf l i ∈ overN l i := over_mem.mpr ⟨(i, endOf l i), sp_mem.mpr ⟨i, hi, .inr rfl⟩, Nat.le_refl _, h.le, rfl⟩
  obtain ⟨h1, h2, h3⟩ := fold_max (overN l i) 0
  rcases h3 with h3 | h3
  · have := h1 _ hm
    have e : endOf l i = farE l i := by show _ = List.foldl max 0 (overN l i); omega
    exact ⟨(i, endOf l i), sp_mem.mpr ⟨i, hi, .inr rfl⟩, Nat.le_refl _, h.le, e⟩
  · exact over_mem.mp h3
theorem sp_bd {l : SRow} (I : Inc l) {q : Nat × Nat} (hq : q ∈ spN l) : q.1 ≤ q.2 ∧ q.2 < l.length := by
  obtain ⟨s, hs, rfl | rfl⟩ := sp_mem.mp hq
  · exact ⟨(startOf_ok I hs).le, hs⟩
  · exact ⟨(endOf_ok I hs).le, (endOf_ok I hs).lt⟩
theorem far_lt {l : SRow} (I : Inc l) {i : Nat} (hi : i < l.length) : farE l i < l.length := by
  obtain ⟨q, h1, _, _, h4⟩ := far_ex I hi
  have := (sp_bd I h1).2
  omega
/-- the greatest of the ends over a stone -/
theorem far_of {l : SRow} {i m : Nat} (hm : m ∈ overN l i) (h : ∀ x ∈ overN l i, x ≤ m) : m = farE l i := by
  obtain ⟨h1, h2, h3⟩ := fold_max (overN l i) 0
  have e := h1 m hm
  rcases h3 with h3 | h3
  · show m = List.foldl max 0 (overN l i)
    omega
  · have := h _ h3
    show m = List.foldl max 0 (overN l i)
    omega
noncomputable def sidesD (l : SRow) (s : Nat) : List PyData := [.tuple [.tuple [.int (s : Nat), .str "left"], .tuple [.int (startOf l s : Nat), .int (s : Nat)]], .tuple [.tuple [.int (s : Nat), .str "right"], .tuple [.int (s : Nat), .int (endOf l s : Nat)]]]
noncomputable def sidesL (l : SRow) (n : Nat) : List PyData := (List.range n).flatMap (sidesD l)
theorem sides_succ {l : SRow} {n : Nat} : sidesL l (n + 1) = sidesL l n ++ sidesD l n := by unfold sidesL; rw [List.range_succ, List.flatMap_append]; simp
theorem sides_len {l : SRow} : ∀ {n : Nat}, (sidesL l n).length = 2 * n
  | 0 => rfl
  | n + 1 => by rw [sides_succ, List.length_append, sides_len (n := n)]; simp [sidesD]; omega
def mf_spans_of : MF := fun as R _ => ∃ l : SRow, as = [.d (rowD l)] ∧ Inc l ∧ R (.d (.list (sidesL l l.length)))
theorem d_spans_of {f : Addr} {fd : FuncData} (T : Txt K mg) (hm : mg "spans_of" = some (.ref f)) (F0 : L2.Fun K "spans_of" "spans_of" s_spans_of f fd) (hb : Binds K fd ["row"] []) (F_stretches : DFn P w K mg base CK "stretches" 2 0 1 mf_stretches) : DFn P w K mg base CK "spans_of" 3 0 1 mf_spans_of :=
  (dfn_of hm F0 hb sc_spans_of (fun cdv A outer s H E cx =>
 (dss_cons (ds_set (i := 1) sc_spans_of.nd rfl (by first | exact Or.inl rfl | exact Or.inr rfl) (de_lst da_nil))
 (dss_cons (ds_for (Ctx.passes rfl) (by rfl) (di_enumT (by rfl) T.n_enumerate (da_cons (de_call cx F_stretches (by decide) (by rfl) (da_cons (de_pv 0) da_nil)) da_nil)) (dg_tup (by rfl) (dgs_cons (dg_name (i := 2) sc_spans_of.nd rfl (by first | exact Or.inl rfl | exact Or.inr rfl)) (dgs_cons (dg_tup (by rfl) (dgs_cons (dg_name (i := 3) sc_spans_of.nd rfl (by first | exact Or.inl rfl | exact Or.inr rfl)) (dgs_cons (dg_name (i := 4) sc_spans_of.nd rfl (by first | exact Or.inl rfl | exact Or.inr rfl)) dgs_nil))) dgs_nil))) (dss_one (ds_mut PySem.F.slot_list_extend PySem.F.type_list_extend mt_extend mut_ext (pv 1) (da_cons (de_lst (da_cons (de_tup (da_cons (de_tup (da_cons (de_pv 2) (da_cons (de_gs (by rfl) T.c_LEFT) da_nil))) (da_cons (de_pv 3) da_nil))) (da_cons (de_tup (da_cons (de_tup (da_cons (de_pv 2) (da_cons (de_gs (by rfl) T.c_RIGHT) da_nil))) (da_cons (de_pv 4) da_nil))) da_nil))) da_nil))))
 (dss_one (ds_ret (de_pv 1))))))
  (by
    rintro as R ex hl ⟨l, rfl, I, h⟩
    have hn0 := I.n0
    have hn1 := I.n1
    walk_at "dx"
    refine ⟨by walk_at "lim", l, rfl, I, ?_⟩
    unfold spansD
    walk_at "dx"
    refine ⟨fun x hx => by cases List.mem_singleton.mp hx; rfl, ?_⟩
    refine for_at (fun k δ => ∃ (a b c : Option DV), k ≤ l.length ∧ δ = [some (.d (rowD l)), some (.own (sidesL l k)), a, b, c]) ⟨none, none, none, Nat.zero_le _, rfl⟩ ?_ ?_
    · rintro δ ⟨a, b, c, hk, rfl⟩
      have hz : (enumD 0 ((List.range l.length).map (spanD l))).length = l.length := by rw [enumD_len]; simp
      rw [hz]
      walk_at "dx"
      exact h
    · rintro k d δ K hd ⟨a, b, c, hk, rfl⟩ hK
      rw [enumD_get, List.getElem?_map] at hd
      have hkl : k < l.length := by
        rcases Nat.lt_or_ge k l.length with q | q
        · exact q
        · rw [List.getElem?_eq_none (by simpa using q)] at hd; cases hd
      rw [List.getElem?_range hkl] at hd
      cases hd
      unfold spanD
      rw [Nat.zero_add]
      walk_at "dx"
      refine ⟨by walk_at "lim", by walk_at "lim", by walk_at "lim", by walk_at "lim", by walk_at "lim", ?_⟩
      rw [if_pos (show (sidesL l k).length + 2 ≤ sizeLine from by rw [sides_len]; walk_at "lim")]
      exact hK _ ⟨_, _, _, hkl, by rw [sides_succ]; rfl⟩)).le (by decide +kernel)
def onSpH (i : Nat) : PyData → Option HP
  | .tuple [.tuple [.int s, .str x], .tuple [.int a, .int b]] => if decide (a ≤ (i : Nat)) && decide ((i : Nat) ≤ b) then some (b, s, x) else none
  | _ => none
def onSp (i : Nat) (d : PyData) : Option PyData := (onSpH i d).map hpD
noncomputable def overH (l : SRow) (i : Nat) : List HP := (sidesL l l.length).filterMap (onSpH i)
theorem over_lc {l : SRow} {i : Nat} : (sidesL l l.length).filterMap (onSp i) = (overH l i).map hpD := by
  unfold overH
  rw [List.map_filterMap]
  rfl
theorem sides_mem {l : SRow} {n : Nat} {d : PyData} : d ∈ sidesL l n ↔ ∃ s, s < n ∧ (d = .tuple [.tuple [.int (s : Nat), .str "left"], .tuple [.int (startOf l s : Nat), .int (s : Nat)]] ∨ d = .tuple [.tuple [.int (s : Nat), .str "right"], .tuple [.int (s : Nat), .int (endOf l s : Nat)]]) := by
  unfold sidesL sidesD
  simp only [List.mem_flatMap, List.mem_range, List.mem_cons, List.not_mem_nil, or_false]
theorem overH_in {l : SRow} {i : Nat} {m : HP} (h : m ∈ overH l i) : ∃ k ∈ overN l i, m.1 = (k : Nat) := by
  obtain ⟨d, hd, e⟩ := List.mem_filterMap.mp h
  obtain ⟨s, hs, rfl | rfl⟩ := sides_mem.mp hd
  · simp only [onSpH] at e
    split at e
    · rename_i c
      cases e
      simp only [Bool.and_eq_true, decide_eq_true_eq] at c
      exact ⟨s, over_mem.mpr ⟨(startOf l s, s), sp_mem.mpr ⟨s, hs, .inl rfl⟩, by simp only; omega, by simp only; omega, rfl⟩, rfl⟩
    · cases e
  · simp only [onSpH] at e
    split at e
    · rename_i c
      cases e
      simp only [Bool.and_eq_true, decide_eq_true_eq] at c
      exact ⟨endOf l s, over_mem.mpr ⟨(s, endOf l s), sp_mem.mpr ⟨s, hs, .inr rfl⟩, by simp only; omega, by simp only; omega, rfl⟩, rfl⟩
    · cases e
theorem overH_of {l : SRow} {i k : Nat} (h : k ∈ overN l i) : ∃ m ∈ overH l i, m.1 = (k : Nat) := by
  obtain ⟨q, hq, h1, h2, rfl⟩ := over_mem.mp h
  obtain ⟨s, hs, rfl | rfl⟩ := sp_mem.mp hq
  · refine ⟨((s : Nat), (s : Nat), "left"), List.mem_filterMap.mpr ⟨_, sides_mem.mpr ⟨s, hs, .inl rfl⟩, ?_⟩, rfl⟩
    simp only [onSpH]
    rw [if_pos]
    simp only at h1 h2
    simp only [Bool.and_eq_true, decide_eq_true_eq]
    omega
  · refine ⟨((endOf l s : Nat), (s : Nat), "right"), List.mem_filterMap.mpr ⟨_, sides_mem.mpr ⟨s, hs, .inr rfl⟩, ?_⟩, rfl⟩
    simp only [onSpH]
    rw [if_pos]
    simp only at h1 h2
    simp only [Bool.and_eq_true, decide_eq_true_eq]
    omega
theorem overH_max {l : SRow} {i : Nat} {m : HP} (hm : m ∈ overH l i) (h : ∀ q ∈ overH l i, q.1 ≤ m.1) : m.1 = (farE l i : Nat) := by
  obtain ⟨k, hk, e⟩ := overH_in hm
  rw [e, far_of hk fun x hx => ?_]
  obtain ⟨q, hq, e2⟩ := overH_of hx
  have := h q hq
  omega
theorem overH_pos {l : SRow} (I : Inc l) {i : Nat} (hi : i < l.length) : 0 < (overH l i).length := by
  have h := endOf_ok I hi
  obtain ⟨m, hm, _⟩ := overH_of (l := l) (i := i) (over_mem.mpr ⟨(i, endOf l i), sp_mem.mpr ⟨i, hi, .inr rfl⟩, Nat.le_refl _, h.le, rfl⟩)
  exact List.length_pos_of_mem hm
theorem overH_len {l : SRow} {i : Nat} : (overH l i).length ≤ 2 * l.length := by
  have := List.length_filterMap_le (onSpH i) (sidesL l l.length)
  rw [sides_len] at this
  exact this
/-- a push and its span -/
noncomputable def spanOf (l : SRow) (p : Nat × Bool) : Nat × Nat := if p.2 then (p.1, endOf l p.1) else (startOf l p.1, p.1)
def sideOf (b : Bool) : Str := if b then "right" else "left"
def hpOf (e : Nat) (p : Nat × Bool) : HP := ((e : Nat), (p.1 : Nat), sideOf p.2)
theorem span_sp {l : SRow} {p : Nat × Bool} (hp : p.1 < l.length) : spanOf l p ∈ spN l := by
  obtain ⟨s, b⟩ := p
  refine sp_mem.mpr ⟨s, hp, ?_⟩
  cases b
  · exact .inl rfl
  · exact .inr rfl
theorem overH_push {l : SRow} {i : Nat} {m : HP} (h : m ∈ overH l i) : ∃ p : Nat × Bool, p.1 < l.length ∧ (spanOf l p).1 ≤ i ∧ i ≤ (spanOf l p).2 ∧ m = hpOf (spanOf l p).2 p := by
  obtain ⟨d, hd, e⟩ := List.mem_filterMap.mp h
  obtain ⟨s, hs, rfl | rfl⟩ := sides_mem.mp hd
  · simp only [onSpH] at e
    split at e
    · rename_i c
      cases e
      simp only [Bool.and_eq_true, decide_eq_true_eq] at c
      exact ⟨(s, false), hs, by show startOf l s ≤ i; omega, by show i ≤ s; omega, rfl⟩
    · cases e
  · simp only [onSpH] at e
    split at e
    · rename_i c
      cases e
      simp only [Bool.and_eq_true, decide_eq_true_eq] at c
      exact ⟨(s, true), hs, by show s ≤ i; omega, by show i ≤ endOf l s; omega, rfl⟩
    · cases e
/-- of the pushes over i one that goes farthest -/
def Far (l : SRow) (i : Nat) (p : Nat × Bool) : Prop := p.1 < l.length ∧ (spanOf l p).1 ≤ i ∧ (spanOf l p).2 = farE l i
structure Ends (l : SRow) (n : Nat) (es : List HP) : Prop where
  len : es.length = n
  at' : ∀ (i : Nat) (e : HP), es[i]? = some e → ∃ p, Far l i p ∧ e = hpOf (farE l i) p
def pushOf (p : Nat × Bool) : PyData := .tuple [.int (p.1 : Nat), .str (sideOf p.2)]
theorem Ends.get {l : SRow} {n : Nat} {es : List HP} (h : Ends l n es) {i : Nat} (hi : i < n) : ∃ p, Far l i p ∧ atI (es.map hpD) (i : Nat) = some (.tuple [.int (farE l i : Nat), pushOf p]) := by
  have hl : i < es.length := by rw [h.len]; exact hi
  obtain ⟨p, hp, e⟩ := h.at' i _ (List.getElem?_eq_getElem hl)
  refine ⟨p, hp, ?_⟩
  rw [atI_map (f := hpD) i rfl (List.getElem?_eq_getElem hl), e]
  rfl
def mf_far_ends : MF := fun as R _ => ∃ l : SRow, as = [.d (rowD l)] ∧ Inc l ∧ ∀ es : List HP, Ends l l.length es → R (.d (.list (es.map hpD)))
theorem d_far_ends {f : Addr} {fd : FuncData} (T : Txt K mg) (hm : mg "far_ends" = some (.ref f)) (F0 : L2.Fun K "far_ends" "far_ends" s_far_ends f fd) (hb : Binds K fd ["row"] []) (F_spans_of : DFn P w K mg base CK "spans_of" 3 0 1 mf_spans_of) : DFn P w K mg base CK "far_ends" 4 0 1 mf_far_ends :=
  (dfn_of hm F0 hb sc_far_ends (fun cdv A outer s H E cx =>
 (dss_cons (ds_par2 (i := 1) (j := 2) (by rfl) sc_far_ends.nd rfl rfl (by decide) rfl rfl (da_cons (de_call cx F_spans_of (by decide) (by rfl) (da_cons (de_pv 0) da_nil)) (da_cons (de_lst da_nil) da_nil)) (by rfl))
 (dss_cons (ds_for (Ctx.passes rfl) (by rfl) (di_range1 (by rfl) T.n_range (da_cons (de_len (by rfl) T.n_len (da_cons (de_pv 0) da_nil)) da_nil)) (dg_name (i := 3) sc_far_ends.nd rfl (by first | exact Or.inl rfl | exact Or.inr rfl)) (dss_one (ds_mut PySem.F.slot_list_append PySem.F.type_list_append mt_append mut_app (pv 2) (da_cons (de_maxH cx.u (by rfl) (by rfl) T.n_max (da_cons (de_lc (own := [("push", 4), ("low", 5), ("high", 6)]) (dom := [4, 5, 6]) (by rfl) sc_far_ends.nd (di_list (de_pv 1)) (blkOk_by (by kernel_rfl)) (by decide) (fun _ _ _ _ _ => (dg_tup (by rfl) (dgs_cons (dg_name (i := 4) sc_far_ends.nd rfl (by first | exact Or.inl rfl | exact Or.inr rfl)) (dgs_cons (dg_tup (by rfl) (dgs_cons (dg_name (i := 5) sc_far_ends.nd rfl (by first | exact Or.inl rfl | exact Or.inr rfl)) (dgs_cons (dg_name (i := 6) sc_far_ends.nd rfl (by first | exact Or.inl rfl | exact Or.inr rfl)) dgs_nil))) dgs_nil)))) (fun _ _ _ _ _ => (dts_one (dt_ch op_le op_le (de_pv 5) (de_pv 3) (de_pv 6)))) (fun _ _ _ _ _ => (de_tup (da_cons (de_pv 6) (da_cons (de_pv 4) da_nil))))) da_nil)) da_nil))))
 (dss_one (ds_ret (de_pv 2))))))
  (by
    rintro as R ex hl ⟨l, rfl, I, h⟩
    have hn0 := I.n0
    have hn1 := I.n1
    have hlen : oLen (.d (rowD l)) = fun R => R (.d (.int l.length)) := by
      unfold rowD
      funext R
      walk_at "dx"
      rw [List.length_map]
    walk_at "dx"
    refine ⟨l, rfl, I, by walk_at "lim", ?_⟩
    walk_at "dx"
    rw [hlen]
    walk_at "dx"
    refine ⟨by omega, by omega, ?_⟩
    refine for_range (fun k δ => ∃ (es : List HP) (a b c d : Option DV), Ends l k es ∧ δ = [some (.d (rowD l)), some (.d (.list (sidesL l l.length))), some (.own (es.map hpD)), a, b, c, d]) ⟨[], _, _, _, _, ⟨rfl, fun i e h => by cases h⟩, rfl⟩ ?_ ?_
    · rintro δ ⟨es, a, b, c, d, hE, rfl⟩
      walk_at "dx"
      exact h es hE
    · rintro k δ K hk ⟨es, a, b, c, d, hE, rfl⟩ hK
      rw [show (0 : Int) + (k : Nat) = (k : Nat) from Int.zero_add _]
      walk_at "dx"
      refine lc_ind (onSp k) _ _ (fun x hx K1 K0 q1 q0 => ?_) (by rw [sides_len]; walk_at "lim") ?_
      · obtain ⟨s, hs, rfl | rfl⟩ := sides_mem.mp hx
        · walk_at "dx"
          have e : onSp k (.tuple [.tuple [.int (s : Nat), .str "left"], .tuple [.int (startOf l s : Nat), .int (s : Nat)]]) = Option.map hpD (if decide (((startOf l s : Nat) : Int) ≤ (k : Nat)) && decide (((k : Nat) : Int) ≤ (s : Nat)) then some (((s : Nat) : Int), ((s : Nat) : Int), "left") else none) := rfl
          rw [e] at q1 q0
          refine ⟨fun c1 => ⟨fun c2 => ⟨by walk_at "lim", q1 _ ?_⟩, fun c2 => q0 ?_⟩, fun c1 => q0 ?_⟩
          · rw [decide_eq_true c1, decide_eq_true c2]; rfl
          · rw [decide_eq_false c2, Bool.and_false]; rfl
          · rw [decide_eq_false c1, Bool.false_and]; rfl
        · walk_at "dx"
          have e : onSp k (.tuple [.tuple [.int (s : Nat), .str "right"], .tuple [.int (s : Nat), .int (endOf l s : Nat)]]) = Option.map hpD (if decide (((s : Nat) : Int) ≤ (k : Nat)) && decide (((k : Nat) : Int) ≤ (endOf l s : Nat)) then some (((endOf l s : Nat) : Int), ((s : Nat) : Int), "right") else none) := rfl
          rw [e] at q1 q0
          refine ⟨fun c1 => ⟨fun c2 => ⟨by walk_at "lim", q1 _ ?_⟩, fun c2 => q0 ?_⟩, fun c1 => q0 ?_⟩
          · rw [decide_eq_true c1, decide_eq_true c2]; rfl
          · rw [decide_eq_false c2, Bool.and_false]; rfl
          · rw [decide_eq_false c1, Bool.false_and]; rfl
      · rw [List.nil_append, over_lc]
        walk_at "dx"
        rw [hpsL_map]
        dsimp only
        refine ⟨overH_pos I hk, fun m hm hq => ?_⟩
        rw [if_pos (show (es.map hpD).length < sizeLine from by rw [List.length_map, hE.len]; walk_at "lim")]
        refine hK _ ⟨es ++ [m], _, _, _, _, ⟨by rw [List.length_append, hE.len]; rfl, fun i e he => ?_⟩, by rw [List.map_append]; rfl⟩
        rcases Nat.lt_or_ge i es.length with c | c
        · rw [List.getElem?_append_left c] at he
          exact hE.at' i e he
        · rw [List.getElem?_append_right c] at he
          have : i = k := by
            have := (List.getElem?_eq_some_iff.mp he).1
            rw [hE.len] at this c
            simp only [List.length_singleton] at this
            omega
          subst this
          rw [hE.len, Nat.sub_self] at he
          cases he
          have e1 := overH_max hm hq
          obtain ⟨p, p1, p2, p3, p4⟩ := overH_push hm
          have e2 : (spanOf l p).2 = farE l i := by
            rw [p4] at e1
            exact Int.ofNat.inj e1
          exact ⟨p, ⟨p1, p2, e2⟩, by rw [← e2]; exact p4⟩)).le (by decide +kernel)
def noStone (v : PyData) : DExc := ⟨"NoStone", some ("value", v)⟩
/-- the first value that is no stone of a row of n -/
def badSt (n : Nat) (gs : List PyData) : Option PyData := gs.find? fun v => !isInt v 0 ((n : Nat) - 1)
/-- pushes needed for stones one after another; below h all lie -/
def needF (f : Nat → Nat) : Nat → List Nat → Nat
  | _, [] => 0
  | h, s :: r => if h ≤ s then 1 + needF f (f s + 1) r else needF f h r
def srtN (ks : List Nat) : List Nat := ks.mergeSort fun a b => decide (a ≤ b)
theorem srt_perm {ks : List Nat} : (srtN ks).Perm ks := List.mergeSort_perm _ _
theorem srt_asc {ks : List Nat} : (srtN ks).Pairwise (· ≤ ·) := by
  have := List.pairwise_mergeSort (le := fun a b : Nat => decide (a ≤ b)) (fun a b c h1 h2 => by simp at *; omega) (fun a b => by simp; omega) ks
  exact this.imp fun h => by simpa using h
theorem srt_of {ks ms : List Nat} (hp : ms.Perm ks) (hs : ms.Pairwise (· ≤ ·)) : ms = srtN ks := List.Perm.eq_of_pairwise (fun a b _ _ h1 h2 => Nat.le_antisymm h1 h2) hs srt_asc (hp.trans srt_perm.symm)
theorem srt_int {ks : List Nat} : isort (ks.map fun k : Nat => (k : Int)) = (srtN ks).map fun k : Nat => (k : Int) := by
  refine (isort_of (List.Perm.map _ srt_perm) ?_).symm
  exact List.Pairwise.map _ (fun a b h => by omega) srt_asc
theorem natInts (ks : List Nat) : ks.map natD = (ks.map fun k : Nat => (k : Int)).map PyData.int := by rw [List.map_map]; rfl
theorem srt_mem {ks : List Nat} {x : Nat} : x ∈ srtN ks ↔ x ∈ ks := srt_perm.mem_iff
theorem is_st {n s : Nat} (h : s < n) : isInt (.int (s : Nat)) 0 ((n : Nat) - 1) = true := by simp [isInt]; omega
theorem isInt_nat {v : PyData} {n : Nat} (h : isInt v 0 ((n : Nat) - 1) = true) : ∃ s : Nat, v = .int (s : Nat) ∧ s < n := by
  cases v with
  | int i =>
    simp only [isInt, Bool.and_eq_true, decide_eq_true_eq] at h
    exact ⟨i.toNat, by rw [Int.toNat_of_nonneg h.1], by omega⟩
  | _ => simp [isInt] at h
theorem bad_none {n : Nat} : ∀ {gs : List PyData}, badSt n gs = none → ∃ ks : List Nat, gs = ks.map natD ∧ ∀ k ∈ ks, k < n
  | [], _ => ⟨[], rfl, fun k h => by cases h⟩
  | g :: gs, h => by
    unfold badSt at h
    rw [List.find?_cons] at h
    cases e : isInt g 0 ((n : Nat) - 1) with
    | false => rw [e] at h; cases h
    | true =>
      rw [e] at h
      obtain ⟨ks, rfl, hk⟩ := bad_none (gs := gs) h
      obtain ⟨s, rfl, hs⟩ := isInt_nat e
      refine ⟨s :: ks, rfl, fun k hk' => ?_⟩
      rcases List.mem_cons.mp hk' with rfl | hk'
      · exact hs
      · exact hk k hk'
def mf_fewest_for : MF := fun as R ex => ∃ (l : SRow) (gs : List PyData), as = .d (rowD l) :: gs.map DV.d ∧ Inc l ∧ gs.length ≤ 1000 ∧ (∀ v, badSt l.length gs = some v → ex (noStone v)) ∧ ∀ ks : List Nat, gs = ks.map natD → (∀ k ∈ ks, k < l.length) → R (.d (natD (needF (farE l) 0 (srtN ks))))
/-- two stones that no push fells both -/
noncomputable def Apart2 (l : SRow) (a b : Nat) : Bool := decide (a < b) && !((spN l).map fun q => decide (q.1 ≤ a) && decide (b ≤ q.2)).any id
noncomputable def apartB (l : SRow) : List Nat → Bool
  | [] => true
  | a :: r => (match r with
    | [] => true
    | b :: _ => Apart2 l a b) && apartB l r
/-- any value: is it stones apart? -/
noncomputable def apartV (l : SRow) (v : PyData) : Bool := match v with
  | .tuple xs => match badSt l.length xs with
    | some _ => false
    | none => apartB l (xs.map fun x => match x with
      | .int i => i.toNat
      | _ => 0)
  | _ => false
def onLH (a b : Nat) : PyData → Option PyData
  | .tuple [_, .tuple [.int lo, .int hi]] => some (.bool (decide (lo ≤ (a : Nat)) && decide ((b : Nat) ≤ hi)))
  | _ => none
theorem lh_lc {l : SRow} {a b : Nat} : (sidesL l l.length).filterMap (onLH a b) = ((spN l).map fun q => decide (q.1 ≤ a) && decide (b ≤ q.2)).map PyData.bool := by
  unfold sidesL spN
  rw [List.map_flatMap, List.map_flatMap, List.filterMap_flatMap]
  refine congrArg (fun f => List.flatMap f (List.range l.length)) ?_
  funext s
  simp only [sidesD, onLH, List.filterMap_cons, List.filterMap_nil, List.map_cons, List.map_nil, Int.ofNat_le]
theorem oBools_map {f : List Bool → Bool} {bs : List Bool} {R : DV → Prop} : oBools f (.own (bs.map PyData.bool)) R = R (.d (.bool (f bs))) := by
  unfold oBools
  simp only [DV.lst, boolsOf_map]
theorem fm_congr {α β : Type} {f g : α → Option β} : ∀ {xs : List α}, (∀ x ∈ xs, f x = g x) → xs.filterMap f = xs.filterMap g
  | [], _ => rfl
  | x :: xs, h => by
    rw [List.filterMap_cons, List.filterMap_cons, h x (List.mem_cons_self ..), fm_congr fun y hy => h y (List.mem_cons_of_mem _ hy)]
def mf_are_apart : MF := fun as R _ => ∃ (l : SRow) (v : PyData), as = [.d (rowD l), .d v] ∧ Inc l ∧ (∀ xs, v = .tuple xs → xs.length ≤ 1000) ∧ R (.d (.bool (apartV l v)))
theorem badSt_all {n : Nat} {xs : List PyData} : (xs.map fun v => isInt v 0 ((n : Nat) - 1)).all id = (badSt n xs).isNone := by
  induction xs with
  | nil => rfl
  | cons x xs ih =>
    unfold badSt at ih ⊢
    rw [List.map_cons, List.all_cons, ih, List.find?_cons]
    cases isInt x 0 ((n : Nat) - 1) <;> rfl
theorem zip_nats : ∀ (xs : List Nat) (ys : List Nat), zipD (xs.map natD) (ys.map natD) = (xs.zip ys).map fun p => .tuple [natD p.1, natD p.2]
  | [], _ => rfl
  | _ :: _, [] => rfl
  | x :: xs, y :: ys => by
    rw [List.map_cons, List.map_cons, zipD, zip_nats xs ys]
    rfl
theorem d_are_apart {f : Addr} {fd : FuncData} (T : Txt K mg) (hm : mg "are_apart" = some (.ref f)) (F0 : L2.Fun K "are_apart" "are_apart" s_are_apart f fd) (hb : Binds K fd ["row", "value"] []) (F_spans_of : DFn P w K mg base CK "spans_of" 3 0 1 mf_spans_of) (F_is_integer : DFn P w K mg base CK "is_integer" 1 0 3 mf_is_integer) : DFn P w K mg base CK "are_apart" 4 0 2 mf_are_apart :=
  (dfn_of hm F0 hb sc_are_apart (fun cdv A outer s H E cx =>
 (dss_cons (ds_if (DW.dt (dw_or (dt_not (dt_val (de_isi (by rfl) T.n_isinstance (da_cons (de_pv 1) (da_cons (de_ty (T := "tuple") (by rfl) T.n_tuple (by decide +kernel)) da_nil))))) (dw_or1 (dt_not (dt_val (de_all (by rfl) (by rfl) T.n_all (da_cons (de_lc (own := [("stone", 2)]) (dom := [2]) (by rfl) sc_are_apart.nd (di_tup (de_pv 1)) (blkOk_by (by kernel_rfl)) (by decide) (fun _ _ _ _ _ => (dg_name (i := 2) sc_are_apart.nd rfl (by first | exact Or.inl rfl | exact Or.inr rfl))) (fun _ _ _ _ _ => dts_nil) (fun _ _ _ _ _ => (de_call cx.blk F_is_integer (by decide) (by rfl) (da_cons (de_pv 2) (da_cons de_int (da_cons (de_sub (de_len (by rfl) T.n_len (da_cons (de_pv 0) da_nil)) de_int) da_nil)))))) da_nil))))))) (dss_one (ds_ret de_bl)) dss_nil)
 (dss_cons (ds_set (i := 3) sc_are_apart.nd rfl (by first | exact Or.inl rfl | exact Or.inr rfl) (de_call cx F_spans_of (by decide) (by rfl) (da_cons (de_pv 0) da_nil)))
 (dss_cons (ds_for (Ctx.passes rfl) (by rfl) (di_zipT (by rfl) T.n_zip (da_cons (de_pv 1) (da_cons (de_slice (de_pv 1) (do_some de_int) do_none) da_nil))) (dg_tup (by rfl) (dgs_cons (dg_name (i := 2) sc_are_apart.nd rfl (by first | exact Or.inl rfl | exact Or.inr rfl)) (dgs_cons (dg_name (i := 4) sc_are_apart.nd rfl (by first | exact Or.inl rfl | exact Or.inr rfl)) dgs_nil))) (dss_one (ds_if (DW.dt (dw_or (dt_ge (de_pv 2) (de_pv 4)) (dw_or1 (dt_val (de_any (by rfl) (by rfl) T.n_any (da_cons (de_lc (own := [("push", 5), ("low", 6), ("high", 7)]) (dom := [5, 6, 7]) (by rfl) sc_are_apart.nd (di_list (de_pv 3)) (blkOk_by (by kernel_rfl)) (by decide) (fun _ _ _ _ _ => (dg_tup (by rfl) (dgs_cons (dg_name (i := 5) sc_are_apart.nd rfl (by first | exact Or.inl rfl | exact Or.inr rfl)) (dgs_cons (dg_tup (by rfl) (dgs_cons (dg_name (i := 6) sc_are_apart.nd rfl (by first | exact Or.inl rfl | exact Or.inr rfl)) (dgs_cons (dg_name (i := 7) sc_are_apart.nd rfl (by first | exact Or.inl rfl | exact Or.inr rfl)) dgs_nil))) dgs_nil)))) (fun _ _ _ _ _ => dts_nil) (fun _ _ _ _ _ => (de_and (de_le (de_pv 6) (de_pv 2)) (de_one (de_le (de_pv 4) (de_pv 7)))))) da_nil)))))) (dss_one (ds_ret de_bl)) dss_nil)))
 (dss_one (ds_ret de_bl))))))
  (by
    rintro as R ex hl ⟨l, v, rfl, I, hv, h⟩
    have hn1 := I.n1
    have hlen : oLen (.d (rowD l)) = fun R => R (.d (.int l.length)) := by
      unfold rowD
      funext R
      walk_at "dx"
      rw [List.length_map]
    cases v with
    | tuple xs =>
      replace hv := hv xs rfl
      walk_at "dx"
      refine ⟨by decide, fun c => absurd c (by simp [isTy]), fun _ => ?_⟩
      refine lc_ind (fun v => some (.bool (isInt v 0 ((l.length : Nat) - 1)))) _ _ (fun d hd K1 K0 q1 q0 => ?_) (by simp only [List.length_nil]; walk_at "lim") ?_
      · walk_at "dx"
        rw [hlen]
        walk_at "dx"
        exact ⟨d, 0, _, rfl, q1 _ rfl⟩
      rw [show xs.filterMap (fun v => some (PyData.bool (isInt v 0 ((l.length : Nat) - 1)))) = (xs.map fun v => isInt v 0 ((l.length : Nat) - 1)).map PyData.bool by rw [List.map_map, ← List.filterMap_eq_map]; exact fm_congr fun _ _ => rfl, List.nil_append, oBools_map, badSt_all]
      cases hb : badSt l.length xs with
      | some w =>
        rw [show apartV l (.tuple xs) = false by unfold apartV; simp only [hb]] at h
        walk_at "dx"
        exact ⟨fun _ => h, fun z => (by cases z)⟩
      | none =>
        obtain ⟨ks, rfl, hk⟩ := bad_none hb
        rw [List.length_map] at hv
        have e : apartV l (.tuple (ks.map natD)) = apartB l ks := by
          unfold apartV
          simp only [hb, List.map_map]
          congr 1
          exact List.map_id'' (fun k => Int.toNat_natCast k) ks
        rw [e] at h
        walk_at "dx"
        refine ⟨fun z => (by cases z), fun _ => ⟨l, rfl, I, rfl, ?_⟩⟩
        rw [show (1 : Int) = ((1 : Nat) : Int) from rfl, cut_hi, zip_nats]
        refine ⟨fun x hx => by simp only [List.mem_cons, List.not_mem_nil, or_false] at hx; rcases hx with rfl | rfl <;> rfl, ?_⟩
        refine for_ind (fun ds δ => ∃ (r : List Nat) (a2 a4 : Option DV), ds = (r.zip (r.drop 1)).map (fun p => PyData.tuple [natD p.1, natD p.2]) ∧ apartB l ks = apartB l r ∧ δ = [some (.d (rowD l)), some (.d (.tuple (ks.map natD))), a2, some (.d (.list (sidesL l l.length))), a4, none, none, none]) ?_ ?_ _ _ ⟨ks, none, none, rfl, rfl, rfl⟩
        · rintro δ ⟨r, a2, a4, e, hr, rfl⟩
          have ht : apartB l r = true := by
            match r, e with
            | [], _ => rfl
            | [x], _ => rfl
            | x :: y :: r, e => cases e
          rw [hr, ht] at h
          walk_at "dx"
          exact h
        · rintro d ds δ K2 ⟨r, a2, a4, e, hr, rfl⟩ hK2
          match r, e, hr with
          | [], e, _ => cases e
          | [x], e, _ => cases e
          | x :: y :: r, e, hr =>
            have e : d :: ds = PyData.tuple [natD x, natD y] :: ((y :: r).zip ((y :: r).drop 1)).map (fun p => PyData.tuple [natD p.1, natD p.2]) := e
            obtain ⟨rfl, rfl⟩ := List.cons.inj e
            have hr : apartB l ks = (Apart2 l x y && apartB l (y :: r)) := hr
            rw [show natD x = .int (x : Nat) from rfl, show natD y = .int (y : Nat) from rfl]
            walk_at "dx"
            refine ⟨fun c => ?_, fun c => ?_⟩
            · have : Apart2 l x y = false := by unfold Apart2; rw [decide_eq_false (by omega), Bool.false_and]
              rw [hr, this, Bool.false_and] at h
              exact h
            · refine lc_ind (onLH x y) _ _ (fun d hd K1 K0 q1 q0 => ?_) (by rw [sides_len]; simp only [List.length_nil]; walk_at "lim") ?_
              · obtain ⟨s, hs, rfl | rfl⟩ := sides_mem.mp hd
                · walk_at "dx"
                  refine ⟨fun c1 => q1 _ ?_, fun c1 => q1 _ ?_⟩
                  · show some _ = some _
                    rw [decide_eq_true c1, Bool.true_and]
                  · show some _ = some _
                    rw [decide_eq_false c1, Bool.false_and]
                · walk_at "dx"
                  refine ⟨fun c1 => q1 _ ?_, fun c1 => q1 _ ?_⟩
                  · show some _ = some _
                    rw [decide_eq_true c1, Bool.true_and]
                  · show some _ = some _
                    rw [decide_eq_false c1, Bool.false_and]
              · rw [lh_lc, List.nil_append, oBools_map]
                have ea : Apart2 l x y = !((spN l).map fun q => decide (q.1 ≤ x) && decide (y ≤ q.2)).any id := by
                  unfold Apart2
                  rw [decide_eq_true (by omega), Bool.true_and]
                cases hc : ((spN l).map fun q => decide (q.1 ≤ x) && decide (y ≤ q.2)).any id with
                | true =>
                  rw [hr, ea, hc, Bool.not_true, Bool.false_and] at h
                  walk_at "dx"
                  exact h
                | false =>
                  rw [ea, hc, Bool.not_false, Bool.true_and] at hr
                  walk_at "dx"
                  exact hK2 _ ⟨y :: r, _, _, rfl, hr, rfl⟩
    | _ =>
      walk_at "dx"
      exact ⟨by decide, fun _ => h, fun c => absurd c (by simp [isTy])⟩)).le (by decide +kernel)
def tupN (ks : List Nat) : PyData := .tuple (ks.map natD)
/-- the greedy walk from i on: its pushes and its stones -/
inductive GrC (l : SRow) : Nat → List (Nat × Bool) → List Nat → Prop
  | nil {i : Nat} : l.length ≤ i → GrC l i [] []
  | cons {i : Nat} {p : Nat × Bool} {cs : List (Nat × Bool)} {ds : List Nat} : i < l.length → Far l i p → GrC l (farE l i + 1) cs ds → GrC l i (p :: cs) (i :: ds)
inductive GrW (l : SRow) : Nat → List (Nat × Bool) → List Nat → Nat → Prop
  | nil {i : Nat} : GrW l i [] [] i
  | snoc {i j : Nat} {p : Nat × Bool} {cs : List (Nat × Bool)} {ds : List Nat} : GrW l i cs ds j → j < l.length → Far l j p → GrW l i (cs ++ [p]) (ds ++ [j]) (farE l j + 1)
theorem GrW.to {l : SRow} {i j : Nat} {cs : List (Nat × Bool)} {ds : List Nat} (h : GrW l i cs ds j) : ∀ {cs' : List (Nat × Bool)} {ds' : List Nat}, GrC l j cs' ds' → GrC l i (cs ++ cs') (ds ++ ds') := by
  induction h with
  | nil => exact fun h => h
  | snoc _ hj hf ih =>
    intro cs' ds' h
    rw [List.append_assoc, List.append_assoc]
    exact ih (.cons hj hf h)
def mf_cover_certificate : MF := fun as R _ => ∃ l : SRow, as = [.d (rowD l)] ∧ Inc l ∧ ∀ (cs : List (Nat × Bool)) (ds : List Nat), GrC l 0 cs ds → R (.d (.tuple [.tuple (cs.map pushOf), tupN ds]))
theorem d_fewest_for {f : Addr} {fd : FuncData} (T : Txt K mg) (hm : mg "fewest_for" = some (.ref f)) (F0 : L2.Fun K "fewest_for" "fewest_for" s_fewest_for f fd) (hb : ∀ us rest : List Value, us.length = (["row"] : List Str).length → bindArgs fd ⟨us ++ rest, []⟩ = (newTuple rest >>= fun t => pure ((["row"] : List Str).zip us ++ [(("stones" : Str), t)]))) (F_far_ends : DFn P w K mg base CK "far_ends" 4 0 1 mf_far_ends) (F_is_integer : DFn P w K mg base CK "is_integer" 1 0 3 mf_is_integer) (X_NoStone : XMk P w K mg base "NoStone" "value") : DFnS P w K mg base CK "fewest_for" 5 0 mf_fewest_for :=
  (dfnS_of (ps := ["row"]) (pv := "stones") hm F0 sc_fewest_for hb (fun cdv A outer s H E cx =>
 (dss_cons (ds_for (Ctx.passes rfl) (by rfl) (di_tup (de_pv 1)) (dg_name (i := 2) sc_fewest_for.nd rfl (by first | exact Or.inl rfl | exact Or.inr rfl)) (dss_one (ds_if (dt_not (dt_val (de_call cx F_is_integer (by decide) (by rfl) (da_cons (de_pv 2) (da_cons de_int (da_cons (de_sub (de_len (by rfl) T.n_len (da_cons (de_pv 0) da_nil)) de_int) da_nil)))))) (dss_one (ds_raise1 cx X_NoStone (by decide) (by rfl) (by rfl) (da_cons (de_pv 2) da_nil))) dss_nil)))
 (dss_cons (ds_par3 (i := 3) (j := 4) (l := 5) (by rfl) sc_fewest_for.nd rfl rfl rfl (by decide) (by decide) (by decide) rfl rfl rfl (da_cons de_int (da_cons (de_neg de_int) (da_cons (de_call cx F_far_ends (by decide) (by rfl) (da_cons (de_pv 0) da_nil)) da_nil))) (by rfl))
 (dss_cons (ds_for (Ctx.passes rfl) (by rfl) (di_list (de_sortedT (by rfl) T.n_sorted (da_cons (de_pv 1) da_nil))) (dg_name (i := 2) sc_fewest_for.nd rfl (by first | exact Or.inl rfl | exact Or.inr rfl)) (dss_one (ds_if (dt_gt (de_pv 2) (de_pv 4)) (dss_cons (ds_aug (i := 3) sc_fewest_for.nd rfl (by first | exact Or.inl rfl | exact Or.inr rfl) de_int ip_add)
 (dss_one (ds_set (i := 4) sc_fewest_for.nd rfl (by first | exact Or.inl rfl | exact Or.inr rfl) (de_ix (de_ix (de_pv 5) (de_pv 2)) de_int)))) dss_nil)))
 (dss_one (ds_ret (de_pv 3)))))))
  (by
    rintro as R ex ⟨l, gs, rfl, I, hn, hb, h⟩
    have hn1 := I.n1
    have hlen : oLen (.d (rowD l)) = fun R => R (.d (.int l.length)) := by
      unfold rowD
      funext R
      walk_at "dx"
      rw [List.length_map]
    refine ⟨[.d (rowD l)], gs, rfl, rfl, by walk_at "lim", ?_⟩
    walk_at "dx"
    refine ⟨fun x hx => by cases List.mem_singleton.mp hx; rfl, ?_⟩
    refine for_ind (fun ds δ => ∃ (a2 : Option DV), badSt l.length gs = badSt l.length ds ∧ δ = [some (.d (rowD l)), some (.d (.tuple gs)), a2, none, none, none]) ?_ ?_ _ _ ⟨_, rfl, rfl⟩
    · rintro δ ⟨a2, hg, rfl⟩
      obtain ⟨ks, rfl, hk⟩ := bad_none (n := l.length) (gs := gs) hg
      replace h := h ks rfl hk
      rw [List.length_map] at hn
      walk_at "dx"
      refine ⟨l, rfl, I, fun es hE => ?_⟩
      walk_at "dx"
      rw [natInts, intsOf_map]
      dsimp only
      rw [srt_int, ← natInts]
      refine ⟨by simp [DV.isBor], ?_⟩
      obtain ⟨tot, htot⟩ : ∃ t, t = needF (farE l) 0 (srtN ks) := ⟨_, rfl⟩
      rw [← htot] at h
      have hE2 : ∀ x ∈ srtN ks, x < l.length := fun x hx => hk x (srt_mem.mp hx)
      refine for_ind (fun ds δ => ∃ (r : List Nat) (c h2 : Nat) (a2 : Option DV), ds = r.map natD ∧ (∀ x ∈ r, x < l.length) ∧ c + needF (farE l) h2 r = tot ∧ δ = [some (.d (rowD l)), some (.d (.tuple (List.map .int (List.map (fun k : Nat => (k : Int)) ks)))), a2, some (.d (.int (c : Nat))), some (.d (.int ((h2 : Nat) - 1))), some (.d (.list (es.map hpD)))]) ?_ ?_ _ _ ⟨srtN ks, 0, 0, a2, rfl, hE2, by rw [Nat.zero_add, htot], rfl⟩
      · rintro δ ⟨r, c, h2, b2, e, _, hc, rfl⟩
        have hr : r = [] := by
          cases r with
          | nil => rfl
          | cons _ _ => cases e
        subst hr
        rw [show needF (farE l) h2 [] = 0 from rfl, Nat.add_zero] at hc
        rw [← hc] at h
        walk_at "dx"
        exact h
      · rintro d ds δ K2 ⟨r, c, h2, b2, e, hr, hc, rfl⟩ hK2
        cases r with
        | nil => cases e
        | cons x r =>
          obtain ⟨rfl, rfl⟩ := List.cons.inj e
          have hx := hr x (List.mem_cons_self ..)
          have hr2 : ∀ y ∈ r, y < l.length := fun y hy => hr y (List.mem_cons_of_mem _ hy)
          obtain ⟨p, _, hat⟩ := hE.get hx
          rw [show natD x = .int (x : Nat) from rfl]
          unfold needF at hc
          walk_at "dx"
          refine ⟨fun c1 => ?_, fun c1 => ?_⟩
          · rw [if_pos (by omega)] at hc
            rw [hat]
            walk_at "dx"
            refine hK2 _ ⟨r, c + 1, farE l x + 1, some (.d (.int (x : Nat))), rfl, hr2, by omega, ?_⟩
            rw [show (((farE l x + 1 : Nat) : Int) - 1) = (farE l x : Nat) by push_cast; omega]
            rfl
          · rw [if_neg (by omega)] at hc
            exact hK2 _ ⟨r, c, h2, _, rfl, hr2, hc, rfl⟩
    · rintro d ds δ K2 ⟨a2, hg, rfl⟩ hK2
      walk_at "dx"
      rw [hlen]
      walk_at "dx"
      refine ⟨d, 0, _, rfl, ?_⟩
      unfold badSt at hg
      rw [List.find?_cons] at hg
      cases e : isInt d 0 ((l.length : Nat) - 1) with
      | false =>
        rw [e] at hg
        walk_at "dx"
        exact hb d hg
      | true =>
        rw [e] at hg
        walk_at "dx"
        exact hK2 _ ⟨_, hg, rfl⟩)).le (by decide +kernel)
theorem d_cover_certificate {f : Addr} {fd : FuncData} (T : Txt K mg) (hm : mg "cover_certificate" = some (.ref f)) (F0 : L2.Fun K "cover_certificate" "cover_certificate" s_cover_certificate f fd) (hb : Binds K fd ["row"] []) (F_far_ends : DFn P w K mg base CK "far_ends" 4 0 1 mf_far_ends) : DFn P w K mg base CK "cover_certificate" 5 0 1 mf_cover_certificate :=
  (dfn_of hm F0 hb sc_cover_certificate (fun cdv A outer s H E cx =>
 (dss_cons (ds_tup4 (i := 1) (j := 2) (l := 3) (m := 4) (by rfl) sc_cover_certificate.nd rfl rfl rfl rfl (by decide) (by decide) (by decide) (by decide) (by decide) (by decide) (by first | exact Or.inl rfl | exact Or.inr rfl) (by first | exact Or.inl rfl | exact Or.inr rfl) (by first | exact Or.inl rfl | exact Or.inr rfl) (by first | exact Or.inl rfl | exact Or.inr rfl) (da_cons (de_lst da_nil) (da_cons (de_lst da_nil) (da_cons (de_call cx F_far_ends (by decide) (by rfl) (da_cons (de_pv 0) da_nil)) (da_cons de_int da_nil)))))
 (dss_cons (ds_while (Ctx.passes rfl) (dt_lt (de_pv 4) (de_len (by rfl) T.n_len (da_cons (de_pv 0) da_nil))) (dss_cons (ds_mut PySem.F.slot_list_append PySem.F.type_list_append mt_append mut_app (pv 2) (da_cons (de_pv 4) da_nil))
 (dss_cons (ds_mut PySem.F.slot_list_append PySem.F.type_list_append mt_append mut_app (pv 1) (da_cons (de_ix (de_ix (de_pv 3) (de_pv 4)) de_int) da_nil))
 (dss_one (ds_set (i := 4) sc_cover_certificate.nd rfl (by first | exact Or.inl rfl | exact Or.inr rfl) (de_add (de_ix (de_ix (de_pv 3) (de_pv 4)) de_int) de_int))))))
 (dss_one (ds_ret (de_tup (da_cons (de_tupleC (by rfl) T.n_tuple (da_cons (de_pv 1) da_nil)) (da_cons (de_tupleC (by rfl) T.n_tuple (da_cons (de_pv 2) da_nil)) da_nil))))))))
  (by
    rintro as R ex hl ⟨l, rfl, I, h⟩
    have hn0 := I.n0
    have hn1 := I.n1
    have hlen : oLen (.d (rowD l)) = fun R => R (.d (.int l.length)) := by
      unfold rowD
      funext R
      walk_at "dx"
      rw [List.length_map]
    walk_at "dx"
    refine ⟨by walk_at "lim", by walk_at "lim", l, rfl, I, fun es hE => ?_⟩
    walk_at "dx"
    refine ⟨fun n δ => ∃ (cs : List (Nat × Bool)) (ds : List Nat) (i : Nat), δ = [some (.d (rowD l)), some (.own (cs.map pushOf)), some (.own (ds.map natD)), some (.d (.list (es.map hpD))), some (.d (.int (i : Nat)))] ∧ n = l.length - i ∧ GrW l 0 cs ds i ∧ ds.length = cs.length ∧ cs.length ≤ i ∧ i ≤ l.length, ⟨_, [], [], 0, rfl, rfl, .nil, rfl, Nat.le_refl _, Nat.zero_le _⟩, ?_⟩
    rintro n δ ⟨cs, ds, i, rfl, rfl, hg, hd, hc, hi⟩
    walk_at "dx"
    rw [hlen]
    walk_at "dx"
    refine ⟨fun c => ?_, fun c => ?_⟩
    · have hi2 : i < l.length := by omega
      obtain ⟨p, hp, hat⟩ := hE.get hi2
      have h1 := far_own I hi2
      have h2 := far_lt I hi2
      rw [hat]
      walk_at "dx"
      rw [if_pos (show (ds.map natD).length < sizeLine from by rw [List.length_map]; walk_at "lim")]
      dsimp only
      rw [if_pos (show (cs.map pushOf).length < sizeLine from by rw [List.length_map]; walk_at "lim")]
      exact ⟨l.length - (farE l i + 1), by omega, cs ++ [p], ds ++ [i], farE l i + 1, (by rw [List.map_append (f := pushOf), List.map_append (f := natD)]; rfl), rfl, .snoc hg hi2 hp, by simp [hd], by rw [List.length_append, List.length_singleton]; omega, by omega⟩
    · have e := hg.to (GrC.nil (l := l) (i := i) (by omega))
      rw [List.append_nil, List.append_nil] at e
      exact ⟨by walk_at "lim", h cs ds e⟩)).le (by decide +kernel)
theorem grc_len {l : SRow} (I : Inc l) {i : Nat} {cs : List (Nat × Bool)} {ds : List Nat} (h : GrC l i cs ds) : ∀ F, l.length - i ≤ F → cs.length = gr (farE l) l.length F i ∧ ds.length = gr (farE l) l.length F i := by
  induction h with
  | nil h =>
    intro F hF
    cases F with
    | zero => exact ⟨rfl, rfl⟩
    | succ F =>
      unfold gr
      rw [if_neg (by omega)]
      exact ⟨rfl, rfl⟩
  | cons hi hf _ ih =>
    intro F hF
    cases F with
    | zero => omega
    | succ F =>
      have := far_own I hi
      obtain ⟨h1, h2⟩ := ih F (by omega)
      unfold gr
      rw [if_pos hi, List.length_cons, List.length_cons, h1, h2]
      exact ⟨Nat.add_comm _ _, Nat.add_comm _ _⟩
def mf_fewest_pushes : MF := fun as R _ => ∃ l : SRow, as = [.d (rowD l)] ∧ Inc l ∧ R (.d (natD (fewN l)))
theorem d_fewest_pushes {f : Addr} {fd : FuncData} (T : Txt K mg) (hm : mg "fewest_pushes" = some (.ref f)) (F0 : L2.Fun K "fewest_pushes" "fewest_pushes" s_fewest_pushes f fd) (hb : Binds K fd ["row"] []) (F_cover_certificate : DFn P w K mg base CK "cover_certificate" 5 0 1 mf_cover_certificate) : DFn P w K mg base CK "fewest_pushes" 6 0 1 mf_fewest_pushes :=
  (dfn_of hm F0 hb sc_fewest_pushes (fun cdv A outer s H E cx =>
 (dss_one (ds_ret (de_len (by rfl) T.n_len (da_cons (de_ix (de_call cx F_cover_certificate (by decide) (by rfl) (da_cons (de_pv 0) da_nil)) de_int) da_nil)))))
  (by
    rintro as R ex hl ⟨l, rfl, I, h⟩
    walk_at "dx"
    refine ⟨l, rfl, I, fun cs ds hg => ?_⟩
    walk_at "dx"
    rw [List.length_map, show cs.length = fewN l from (grc_len I hg _ (by omega)).1]
    exact h)).le (by decide +kernel)
def noIndex (v : PyData) : DExc := ⟨"NoIndex", some ("index", v)⟩
def mf_check_index : MF := fun as R ex => ∃ (v : PyData) (n : Int), as = [.d v, .d (.int n)] ∧ (isInt v 0 (n - 1) = true → R (.d .none)) ∧ (isInt v 0 (n - 1) = false → ex (noIndex v))
theorem d_check_index {f : Addr} {fd : FuncData} (T : Txt K mg) (hm : mg "check_index" = some (.ref f)) (F0 : L2.Fun K "check_index" "check_index" s_check_index f fd) (hb : Binds K fd ["value", "many"] []) (F_is_integer : DFn P w K mg base CK "is_integer" 1 0 3 mf_is_integer) (X_NoIndex : XMk P w K mg base "NoIndex" "index") : DFn P w K mg base CK "check_index" 3 0 2 mf_check_index :=
  (dfn_of hm F0 hb sc_check_index (fun cdv A outer s H E cx =>
 (dss_one (ds_if (dt_not (dt_val (de_call cx F_is_integer (by decide) (by rfl) (da_cons (de_pv 0) (da_cons de_int (da_cons (de_sub (de_pv 1) de_int) da_nil)))))) (dss_one (ds_raise1 cx X_NoIndex (by decide) (by rfl) (by rfl) (da_cons (de_pv 0) da_nil))) dss_nil)))
  (by
    rintro as R ex hl ⟨v, n, rfl, h1, h2⟩
    walk_at "dx"
    refine ⟨v, 0, _, rfl, ?_⟩
    cases hs : isInt v 0 (n - 1) with
    | false =>
      walk_at "dx"
      exact h2 hs
    | true =>
      walk_at "dx"
      exact h1 hs)).le (by decide +kernel)
/-! the most stones that so many pushes fell: from the left end of the rest (W), and by the first stones (V) -/
def wRow (f : Nat → Nat) (n : Nat) (prev : Nat → Nat) : Nat → Nat
  | 0 => 0
  | d + 1 => max (wRow f n prev d) (f (n - (d + 1)) - (n - (d + 1)) + 1 + prev (n - (f (n - (d + 1)) + 1)))
/-- with t pushes, of the last d stones -/
def wT (f : Nat → Nat) (n : Nat) : Nat → Nat → Nat
  | 0 => fun _ => 0
  | t + 1 => wRow f n (wT f n t)
def vSome (S : List (Nat × Nat)) (prev : Nat → Nat) (j : Nat) : List Nat := (S.filter fun q => decide (q.1 ≤ j) && decide (j ≤ q.2)).map fun q => prev q.1 + (j + 1 - q.1)
def vRow (S : List (Nat × Nat)) (prev : Nat → Nat) : Nat → Nat
  | 0 => 0
  | j + 1 => (vSome S prev j).foldl max (vRow S prev j)
/-- with t pushes, of the first j stones -/
def vT (S : List (Nat × Nat)) : Nat → Nat → Nat
  | 0 => fun _ => 0
  | t + 1 => vRow S (vT S t)
structure Cov (f : Nat → Nat) (S : List (Nat × Nat)) (n : Nat) : Prop where
  bd : ∀ q ∈ S, q.1 ≤ q.2 ∧ q.2 < n
  own : ∀ i, i < n → i ≤ f i ∧ f i < n
  ex : ∀ i, i < n → ∃ q ∈ S, q.1 ≤ i ∧ q.2 = f i
  ge : ∀ q ∈ S, ∀ i, q.1 ≤ i → i ≤ q.2 → q.2 ≤ f i
theorem cov_of {l : SRow} (I : Inc l) : Cov (farE l) (spN l) l.length := by
  refine ⟨fun q hq => sp_bd I hq, fun i hi => ⟨far_own I hi, far_lt I hi⟩, fun i hi => ?_, fun q hq i h1 h2 => far_ge hq h1 h2⟩
  obtain ⟨q, h1, h2, _, h4⟩ := far_ex I hi
  exact ⟨q, h1, h2, h4⟩
section
variable {f : Nat → Nat} {S : List (Nat × Nat)} {n : Nat}
theorem Cov.mono (C : Cov f S n) {i j : Nat} (h : i ≤ j) (hj : j < n) : f i ≤ f j := by
  obtain ⟨q, h1, h2, h3⟩ := C.ex i (by omega)
  have := (C.own j hj).1
  rcases Nat.lt_or_ge q.2 j with c | c
  · omega
  · have := C.ge q h1 j (by omega) c
    omega
theorem w_zero' {d : Nat} : wT f n 0 d = 0 := rfl
theorem w_nil {t : Nat} : wT f n t 0 = 0 := by cases t <;> rfl
theorem w_step {t i : Nat} (hi : i < n) : wT f n (t + 1) (n - i) = max (wT f n (t + 1) (n - (i + 1))) (f i - i + 1 + wT f n t (n - (f i + 1))) := by
  obtain ⟨d, hd⟩ : ∃ d, n - i = d + 1 := ⟨n - i - 1, by omega⟩
  rw [hd, show n - (i + 1) = d by omega]
  show max (wRow f n (wT f n t) d) (f (n - (d + 1)) - (n - (d + 1)) + 1 + wT f n t (n - (f (n - (d + 1)) + 1))) = _
  rw [show n - (d + 1) = i by omega]
  rfl
theorem w_mono {t : Nat} : ∀ d, wT f n t d ≤ wT f n (t + 1) d := by
  induction t with
  | zero => exact fun d => Nat.zero_le _
  | succ t ih =>
    intro d
    induction d with
    | zero => exact Nat.le_refl _
    | succ d ih2 =>
      show max (wRow f n (wT f n t) d) _ ≤ max (wRow f n (wT f n (t + 1)) d) _
      have h1 : wRow f n (wT f n t) d ≤ wRow f n (wT f n (t + 1)) d := ih2
      have h2 := ih (n - (f (n - (d + 1)) + 1))
      omega
theorem w_up {t d : Nat} : wT f n t d ≤ wT f n t (d + 1) := by
  cases t with
  | zero => exact Nat.le_refl _
  | succ t => exact Nat.le_max_left _ _
theorem w_upn {t d : Nat} : ∀ {e : Nat}, d ≤ e → wT f n t d ≤ wT f n t e
  | 0, h => by rw [show d = 0 by omega]; exact Nat.le_refl _
  | e + 1, h => by
    rcases Nat.eq_or_lt_of_le h with c | c
    · rw [c]; exact Nat.le_refl _
    · exact Nat.le_trans (w_upn (show d ≤ e by omega)) w_up
theorem w_many {t u d : Nat} (h : t ≤ u) : wT f n t d ≤ wT f n u d := by
  induction h with
  | refl => exact Nat.le_refl _
  | step _ ih => exact Nat.le_trans ih (w_mono d)
theorem w_lip1 (C : Cov f S n) : ∀ (t i : Nat), i < n → wT f n t (n - i) ≤ wT f n t (n - (i + 1)) + 1
  | 0, i, hi => Nat.zero_le _
  | t + 1, i, hi => by
    rw [w_step hi]
    have lip : ∀ (m a : Nat), a + m ≤ n → wT f n t (n - a) ≤ wT f n t (n - (a + m)) + m := by
      intro m
      induction m with
      | zero => exact fun a _ => Nat.le_refl _
      | succ m ih =>
        intro a ha
        have h1 := w_lip1 C t a (by omega)
        have h2 := ih (a + 1) (by omega)
        rw [show a + 1 + m = a + (m + 1) by omega] at h2
        omega
    have hf := C.own i hi
    have h2 : f i - i + 1 + wT f n t (n - (f i + 1)) ≤ wT f n (t + 1) (n - (i + 1)) + 1 := by
      rcases Nat.eq_or_lt_of_le hf.1 with c | c
      · have := w_mono (f := f) (n := n) (t := t) (n - (f i + 1))
        rw [← c] at this ⊢
        omega
      · have hi1 : i + 1 < n := by omega
        have h3 := C.mono (show i ≤ i + 1 by omega) hi1
        have h4 := C.own (i + 1) hi1
        rw [w_step hi1]
        have h5 := lip (f (i + 1) - f i) (f i + 1) (by omega)
        rw [show f i + 1 + (f (i + 1) - f i) = f (i + 1) + 1 by omega] at h5
        omega
    omega
theorem w_lip (C : Cov f S n) {t : Nat} : ∀ (m a : Nat), a + m ≤ n → wT f n t (n - a) ≤ wT f n t (n - (a + m)) + m
  | 0, a, _ => Nat.le_refl _
  | m + 1, a, ha => by
    have h1 := w_lip1 C t a (by omega)
    have h2 := w_lip C (t := t) m (a + 1) (by omega)
    rw [show a + 1 + m = a + (m + 1) by omega] at h2
    omega
theorem v_ge {t j : Nat} : vT S (t + 1) j ≤ vT S (t + 1) (j + 1) ∧ ∀ q ∈ S, q.1 ≤ j → j ≤ q.2 → vT S t q.1 + (j + 1 - q.1) ≤ vT S (t + 1) (j + 1) := by
  obtain ⟨h1, h2, _⟩ := fold_max (vSome S (vT S t) j) (vRow S (vT S t) j)
  refine ⟨h2, fun q hq a b => h1 _ (List.mem_map.mpr ⟨q, List.mem_filter.mpr ⟨hq, ?_⟩, rfl⟩)⟩
  rw [decide_eq_true a, decide_eq_true b]
  rfl
theorem v_cases {t j : Nat} : vT S (t + 1) (j + 1) = vT S (t + 1) j ∨ ∃ q ∈ S, q.1 ≤ j ∧ j ≤ q.2 ∧ vT S (t + 1) (j + 1) = vT S t q.1 + (j + 1 - q.1) := by
  obtain ⟨_, _, h3⟩ := fold_max (vSome S (vT S t) j) (vRow S (vT S t) j)
  rcases h3 with h3 | h3
  · exact .inl h3
  · obtain ⟨q, hq, e⟩ := List.mem_map.mp h3
    obtain ⟨h4, h5⟩ := List.mem_filter.mp hq
    simp only [Bool.and_eq_true, decide_eq_true_eq] at h5
    exact .inr ⟨q, h4, h5.1, h5.2, e.symm⟩
theorem v_nil {t : Nat} : vT S t 0 = 0 := by cases t <;> rfl
theorem v_mono {t : Nat} : ∀ j, vT S t j ≤ vT S (t + 1) j := by
  induction t with
  | zero => exact fun _ => Nat.zero_le _
  | succ t ih =>
    intro j
    induction j with
    | zero => exact Nat.le_refl _
    | succ j ih2 =>
      rcases v_cases (S := S) (t := t) (j := j) with e | ⟨q, h1, h2, h3, e⟩
      · rw [e]
        exact Nat.le_trans ih2 v_ge.1
      · rw [e]
        have := (v_ge (S := S) (t := t + 1)).2 q h1 h2 h3
        have := ih q.1
        omega
theorem v_many {t u j : Nat} (h : t ≤ u) : vT S t j ≤ vT S u j := by
  induction h with
  | refl => exact Nat.le_refl _
  | step _ ih => exact Nat.le_trans ih (v_mono j)
theorem v_up {t j : Nat} : vT S t j ≤ vT S t (j + 1) := by
  cases t with
  | zero => exact Nat.le_refl _
  | succ t => exact v_ge.1
theorem v_upn {t j : Nat} : ∀ {e : Nat}, j ≤ e → vT S t j ≤ vT S t e
  | 0, h => by rw [show j = 0 by omega]; exact Nat.le_refl _
  | e + 1, h => by
    rcases Nat.eq_or_lt_of_le h with c | c
    · rw [c]; exact Nat.le_refl _
    · exact Nat.le_trans (v_upn (show j ≤ e by omega)) v_up
theorem v_lip1 {t j : Nat} : vT S t (j + 1) ≤ vT S t j + 1 := by
  cases t with
  | zero => exact Nat.zero_le _
  | succ t =>
    rcases v_cases (S := S) (t := t) (j := j) with e | ⟨q, h1, h2, h3, e⟩
    · rw [e]; omega
    · rw [e]
      rcases Nat.eq_or_lt_of_le h2 with c | c
      · rw [c]
        have := v_mono (S := S) (t := t) j
        omega
      · obtain ⟨k, rfl⟩ : ∃ k, j = k + 1 := ⟨j - 1, by omega⟩
        have := (v_ge (S := S) (t := t)).2 q h1 (show q.1 ≤ k by omega) (by omega)
        omega
theorem v_lip {t j : Nat} : ∀ m, vT S t (j + m) ≤ vT S t j + m
  | 0 => Nat.le_refl _
  | m + 1 => by
    have h1 := v_lip (t := t) (j := j) m
    have h2 := v_lip1 (S := S) (t := t) (j := j + m)
    rw [show j + (m + 1) = j + m + 1 by omega]
    omega
theorem v_le_w (C : Cov f S n) : ∀ (t : Nat) (u j : Nat), j ≤ n → vT S t j + wT f n u (n - j) ≤ wT f n (t + u) n
  | 0, u, j, hj => by
    rw [show vT S 0 j = 0 from rfl, Nat.zero_add, Nat.zero_add]
    exact w_upn (by omega)
  | t + 1, u, 0, hj => by
    rw [v_nil, Nat.zero_add, Nat.sub_zero]
    exact w_many (by omega)
  | t + 1, u, j + 1, hj => by
    rcases v_cases (S := S) (t := t) (j := j) with e | ⟨q, h1, h2, h3, e⟩
    · have h4 := v_le_w C (t + 1) u j (by omega)
      have h5 : wT f n u (n - (j + 1)) ≤ wT f n u (n - j) := w_upn (by omega)
      rw [e]
      omega
    · have hq := C.bd q h1
      have hf := C.own q.1 (by omega)
      have hg := C.ge q h1 q.1 (Nat.le_refl _) hq.1
      have h4 := v_le_w C t (u + 1) q.1 (by omega)
      have h5 := w_step (f := f) (n := n) (t := u) (i := q.1) (by omega)
      have h6 := w_lip C (t := u) (f q.1 + 1 - (j + 1)) (j + 1) (by omega)
      rw [show j + 1 + (f q.1 + 1 - (j + 1)) = f q.1 + 1 by omega] at h6
      rw [show t + 1 + u = t + (u + 1) by omega, e]
      omega
theorem w_le_v (C : Cov f S n) : ∀ (t u d i : Nat), i + d = n → wT f n t (n - i) + vT S u i ≤ vT S (t + u) n
  | 0, u, d, i, hd => by
    rw [w_zero', Nat.zero_add, Nat.zero_add]
    exact v_upn (by omega)
  | t + 1, u, 0, i, hd => by
    have e : i = n := by omega
    subst e
    rw [Nat.sub_self, w_nil, Nat.zero_add]
    exact v_many (by omega)
  | t + 1, u, d + 1, i, hd => by
    rw [w_step (by omega)]
    have h1 := w_le_v C (t + 1) u d (i + 1) (by omega)
    have h2 := v_up (S := S) (t := u) (j := i)
    have hf := C.own i (by omega)
    have h3 := w_le_v C t (u + 1) (n - (f i + 1)) (f i + 1) (by omega)
    obtain ⟨q, q1, q2, q3⟩ := C.ex i (by omega)
    have h4 := (v_ge (S := S) (t := u)).2 q q1 (show q.1 ≤ f i by omega) (by omega)
    have h5 := v_lip (S := S) (t := u) (j := q.1) (i - q.1)
    rw [show q.1 + (i - q.1) = i by omega] at h5
    rw [show t + (u + 1) = t + 1 + u by omega] at h3
    omega
theorem w_eq_v (C : Cov f S n) (t : Nat) : wT f n t n = vT S t n := by
  have h1 := v_le_w C t 0 n (Nat.le_refl _)
  have h2 := w_le_v C t 0 n 0 (by omega)
  rw [Nat.sub_zero, show vT S 0 0 = 0 from rfl] at h2
  rw [w_zero', Nat.add_zero, Nat.add_zero] at h1
  rw [Nat.add_zero, Nat.add_zero] at h2
  omega
/-! how many stones some spans fell -/
def covB (P : List (Nat × Nat)) (x : Nat) : Bool := P.any fun q => decide (q.1 ≤ x) && decide (x ≤ q.2)
def cntC (P : List (Nat × Nat)) (j : Nat) : Nat := ((List.range j).filter (covB P)).length
theorem cov_iff {P : List (Nat × Nat)} {x : Nat} : covB P x = true ↔ ∃ q ∈ P, q.1 ≤ x ∧ x ≤ q.2 := by
  unfold covB
  simp only [List.any_eq_true, Bool.and_eq_true, decide_eq_true_eq]
theorem cnt_succ {P : List (Nat × Nat)} {j : Nat} : cntC P (j + 1) = cntC P j + if covB P j then 1 else 0 := by
  unfold cntC
  rw [List.range_succ, List.filter_append, List.length_append]
  cases h : covB P j <;> simp [h]
theorem cnt_up {P : List (Nat × Nat)} {i : Nat} : ∀ m, cntC P i ≤ cntC P (i + m) ∧ cntC P (i + m) ≤ cntC P i + m
  | 0 => ⟨Nat.le_refl _, Nat.le_refl _⟩
  | m + 1 => by
    have := cnt_up (P := P) (i := i) m
    rw [show i + (m + 1) = i + m + 1 by omega, cnt_succ]
    split <;> omega
theorem cnt_sub {P Q : List (Nat × Nat)} : ∀ {j : Nat}, (∀ x, x < j → covB P x = true → covB Q x = true) → cntC P j ≤ cntC Q j
  | 0, _ => Nat.le_refl _
  | j + 1, h => by
    rw [cnt_succ, cnt_succ]
    have := cnt_sub (P := P) (Q := Q) (j := j) fun x hx => h x (by omega)
    have := h j (by omega)
    cases c : covB P j <;> cases d : covB Q j <;> simp_all <;> omega
theorem cnt_le_v : ∀ (t j : Nat) (P : List (Nat × Nat)), P.length = t → (∀ q ∈ P, q ∈ S) → cntC P j ≤ vT S t j
  | t, 0, P, _, _ => Nat.zero_le _
  | 0, j + 1, P, h, _ => by
    have : P = [] := List.eq_nil_of_length_eq_zero h
    subst this
    have : cntC [] (j + 1) = 0 := by
      unfold cntC
      rw [List.filter_eq_nil_iff.mpr fun x _ => by simp [covB]]
      rfl
    rw [this]
    exact Nat.zero_le _
  | t + 1, j + 1, P, h, hS => by
    cases c : covB P j with
    | false =>
      rw [cnt_succ, c]
      exact Nat.le_trans (cnt_le_v (t + 1) j P h hS) v_ge.1
    | true =>
      obtain ⟨q, hq, h1, h2⟩ := cov_iff.mp c
      have h3 := cnt_le_v t q.1 (P.erase q) (by rw [List.length_erase_of_mem hq, h]; rfl) fun z hz => hS z (List.mem_of_mem_erase hz)
      have h4 := (v_ge (S := S) (t := t)).2 q (hS q hq) h1 h2
      have h5 : cntC P q.1 ≤ cntC (P.erase q) q.1 := cnt_sub fun x hx hc => by
        obtain ⟨z, hz, z1, z2⟩ := cov_iff.mp hc
        exact cov_iff.mpr ⟨z, (List.mem_erase_of_ne (fun e => by rw [e] at z1; omega)).mpr hz, z1, z2⟩
      have h6 := (cnt_up (P := P) (i := q.1) (j + 1 - q.1)).2
      rw [show q.1 + (j + 1 - q.1) = j + 1 by omega] at h6
      omega
termination_by t j => (t, j)
theorem cnt_grow {P : List (Nat × Nat)} {q : Nat × Nat} {i : Nat} (h1 : q.1 ≤ i) (h2 : i ≤ q.2) : cntC P i + (q.2 + 1 - i) ≤ cntC (P ++ [q]) (q.2 + 1) := by
  have h3 : cntC P i ≤ cntC (P ++ [q]) i := cnt_sub fun x _ hc => by
    obtain ⟨z, hz, z1⟩ := cov_iff.mp hc
    exact cov_iff.mpr ⟨z, List.mem_append_left _ hz, z1⟩
  have h4 : ∀ m, i + m ≤ q.2 + 1 → cntC (P ++ [q]) i + m ≤ cntC (P ++ [q]) (i + m) := by
    intro m
    induction m with
    | zero => exact fun _ => Nat.le_refl _
    | succ m ih =>
      intro hm
      rw [show i + (m + 1) = i + m + 1 by omega, cnt_succ, if_pos (cov_iff.mpr ⟨q, List.mem_append_right _ (List.mem_singleton.mpr rfl), by omega, by omega⟩)]
      have := ih (by omega)
      omega
  have := h4 (q.2 + 1 - i) (by omega)
  rw [show i + (q.2 + 1 - i) = q.2 + 1 by omega] at this
  omega
end
noncomputable def wRowL (l : SRow) (t : Nat) : List Nat := (List.range (l.length + 1)).map fun i => wT (farE l) l.length t (l.length - i)
theorem wRowL_len {l : SRow} {t : Nat} : (wRowL l t).length = l.length + 1 := by unfold wRowL; simp
theorem wRowL_get {l : SRow} {t i : Nat} (hi : i ≤ l.length) : (wRowL l t)[i]? = some (wT (farE l) l.length t (l.length - i)) := by
  unfold wRowL
  rw [List.getElem?_map, List.getElem?_range (by omega)]
  rfl
theorem wRowL_of {l : SRow} {t : Nat} {bs : List Nat} (h : bs.length = l.length + 1) (hb : ∀ i, i ≤ l.length → bs[i]? = some (wT (farE l) l.length t (l.length - i))) : bs = wRowL l t := by
  refine List.ext_getElem? fun i => ?_
  rcases Nat.lt_or_ge l.length i with c | c
  · rw [List.getElem?_eq_none (by omega), List.getElem?_eq_none (by rw [wRowL_len]; omega)]
  · rw [hb i c, wRowL_get c]
theorem zeros {k : Nat} : (List.replicate k [PyData.int 0]).flatten = (List.replicate k 0).map natD := by
  rw [List.map_replicate]
  induction k with
  | zero => rfl
  | succ k ih => rw [List.replicate_succ, List.flatten_cons, ih, List.replicate_succ]; rfl
theorem nat_at {ks : List Nat} {i k : Nat} (h : ks[i]? = some k) : atI (ks.map natD) (i : Nat) = some (.int (k : Nat)) := atI_map (f := natD) i rfl h
noncomputable def wTab (l : SRow) (t : Nat) : List PyData := (List.range (t + 1)).map fun k => .list ((wRowL l k).map natD)
theorem wTab_succ {l : SRow} {t : Nat} : wTab l (t + 1) = wTab l t ++ [.list ((wRowL l (t + 1)).map natD)] := by
  unfold wTab
  rw [List.range_succ, List.map_append]
  rfl
theorem wTab_len {l : SRow} {t : Nat} : (wTab l t).length = t + 1 := by unfold wTab; simp
theorem wTab_last {l : SRow} {t : Nat} : atI (wTab l t) (-1) = some (.list ((wRowL l t).map natD)) := by
  unfold wTab
  refine atI_end (f := fun k => PyData.list ((wRowL l k).map natD)) ?_
  rw [List.length_range, List.getElem?_range (by omega)]
  rfl
theorem wTab_get {l : SRow} {t k : Nat} (h : k ≤ t) : atI (wTab l t) (k : Nat) = some (.list ((wRowL l k).map natD)) := by
  unfold wTab
  refine atI_map (f := fun k => PyData.list ((wRowL l k).map natD)) k rfl ?_
  rw [List.getElem?_range (by omega)]
def mf_best_from : MF := fun as R _ => ∃ (l : SRow) (t : Nat), as = [.d (rowD l), .d (.int (t : Nat))] ∧ Inc l ∧ l.length ≤ 1000 ∧ t ≤ 1000 ∧ R (.d (.list (wTab l t)))
theorem d_best_from {f : Addr} {fd : FuncData} (T : Txt K mg) (hm : mg "best_from" = some (.ref f)) (F0 : L2.Fun K "best_from" "best_from" s_best_from f fd) (hb : Binds K fd ["row", "many"] []) (F_far_ends : DFn P w K mg base CK "far_ends" 4 0 1 mf_far_ends) : DFn P w K mg base CK "best_from" 5 0 2 mf_best_from :=
  (dfn_of hm F0 hb sc_best_from (fun cdv A outer s H E cx =>
 (dss_cons (ds_set (i := 2) sc_best_from.nd rfl (by first | exact Or.inl rfl | exact Or.inr rfl) (de_call cx F_far_ends (by decide) (by rfl) (da_cons (de_pv 0) da_nil)))
 (dss_cons (ds_set (i := 3) sc_best_from.nd rfl (by first | exact Or.inl rfl | exact Or.inr rfl) (de_lst (da_cons (de_mul (de_lst (da_cons de_int da_nil)) (de_add (de_len (by rfl) T.n_len (da_cons (de_pv 0) da_nil)) de_int)) da_nil)))
 (dss_cons (ds_for (Ctx.passes rfl) (by rfl) (di_range1 (by rfl) T.n_range (da_cons (de_pv 1) da_nil)) (dg_name (i := 4) sc_best_from.nd rfl (by first | exact Or.inl rfl | exact Or.inr rfl)) (dss_cons (ds_set (i := 5) sc_best_from.nd rfl (by first | exact Or.inl rfl | exact Or.inr rfl) (de_mul (de_lst (da_cons de_int da_nil)) (de_add (de_len (by rfl) T.n_len (da_cons (de_pv 0) da_nil)) de_int)))
 (dss_cons (ds_for (Ctx.passes rfl) (by rfl) (di_range3 (by rfl) T.n_range (da_cons (de_sub (de_len (by rfl) T.n_len (da_cons (de_pv 0) da_nil)) de_int) (da_cons (de_neg de_int) (da_cons (de_neg de_int) da_nil)))) (dg_name (i := 6) sc_best_from.nd rfl (by first | exact Or.inl rfl | exact Or.inr rfl)) (dss_cons (ds_set (i := 7) sc_best_from.nd rfl (by first | exact Or.inl rfl | exact Or.inr rfl) (de_ix (de_ix (de_pv 2) (de_pv 6)) de_int))
 (dss_one (ds_sto (pv 5) (de_pv 6) (de_max2 (by rfl) (by rfl) T.n_max (da_cons (de_ix (de_pv 5) (de_add (de_pv 6) de_int)) (da_cons (de_add (de_add (de_sub (de_pv 7) (de_pv 6)) de_int) (de_ix (de_ix (de_pv 3) (de_neg de_int)) (de_add (de_pv 7) de_int))) da_nil)))))))
 (dss_one (ds_frz 5 (ds_mut PySem.F.slot_list_append PySem.F.type_list_append mt_append mut_app (pv 3) (da_cons (de_pv 5) da_nil)))))))
 (dss_one (ds_ret (de_pv 3)))))))
  (by
    rintro as R ex hl ⟨l, t, rfl, I, hn, ht, h⟩
    have hlen : oLen (.d (rowD l)) = fun R => R (.d (.int l.length)) := by
      unfold rowD
      funext R
      walk_at "dx"
      rw [List.length_map]
    walk_at "dx"
    refine ⟨l, rfl, I, fun es hE => ?_⟩
    walk_at "dx"
    rw [hlen]
    walk_at "dx"
    rw [show ((l.length : Nat) : Int) + 1 = ((l.length + 1 : Nat) : Int) by push_cast; rfl, Int.toNat_natCast, zeros]
    refine ⟨by walk_at "lim", by omega, by omega, by walk_at "lim", by walk_at "lim", by omega, by omega, ?_⟩
    have hz0 : List.replicate (l.length + 1) 0 = wRowL l 0 := wRowL_of (by simp) fun i hi => by rw [List.getElem?_replicate_of_lt (by omega)]; rfl
    refine for_range (fun k δ => ∃ a4 a5 a6 a7 : Option DV, δ = [some (.d (rowD l)), some (.d (.int (t : Nat))), some (.d (.list (es.map hpD))), some (.own (wTab l k)), a4, a5, a6, a7]) ⟨none, none, none, none, by rw [hz0]; rfl⟩ ?_ ?_
    · rintro δ ⟨a4, a5, a6, a7, rfl⟩
      walk_at "dx"
      exact h
    · rintro k δ K hk ⟨a4, a5, a6, a7, rfl⟩ hK
      walk_at "dx"
      rw [hlen]
      walk_at "dx"
      rw [show ((l.length : Nat) : Int) + 1 = ((l.length + 1 : Nat) : Int) by push_cast; rfl, Int.toNat_natCast, zeros]
      have hdown : ((l.length : Nat) : Int) - 1 - -1 = (l.length : Nat) := by omega
      rw [hdown, Int.toNat_natCast]
      refine ⟨by walk_at "lim", by omega, by omega, by walk_at "lim", ⟨by omega, by omega, by omega, by omega⟩, ?_⟩
      refine for_down (fun d δ => ∃ (bs : List Nat) (a6 a7 : Option DV), bs.length = l.length + 1 ∧ (∀ i, l.length - d ≤ i → i ≤ l.length → bs[i]? = some (wT (farE l) l.length (k + 1) (l.length - i))) ∧ δ = [some (.d (rowD l)), some (.d (.int (t : Nat))), some (.d (.list (es.map hpD))), some (.own (wTab l k)), some (.d (.int (k : Nat))), some (.own (bs.map natD)), a6, a7]) ⟨List.replicate (l.length + 1) 0, _, _, by simp, fun i h1 h2 => ?_, rfl⟩ ?_ ?_
      · have : i = l.length := by omega
        subst this
        rw [List.getElem?_replicate_of_lt (by omega), Nat.sub_self, w_nil]
      · rintro δ ⟨bs, a6, a7, hl1, hb, rfl⟩
        have hbs := wRowL_of hl1 fun i hi => hb i (by omega) hi
        subst hbs
        walk_at "dx"
        rw [if_pos (show (wTab l k).length < sizeLine from by rw [wTab_len]; walk_at "lim")]
        exact hK _ ⟨_, _, _, _, by rw [wTab_succ]⟩
      · rintro d δ K2 hd ⟨bs, a6, a7, hl1, hb, rfl⟩ hK2
        obtain ⟨i, hi⟩ : ∃ i : Nat, i = l.length - 1 - d := ⟨_, rfl⟩
        have hil : i < l.length := by omega
        rw [show ((l.length : Nat) : Int) - 1 - (d : Nat) = (i : Nat) by omega]
        obtain ⟨p, _, hat⟩ := hE.get hil
        have hf1 := far_own I hil
        have hf2 := far_lt I hil
        refine ⟨rfl, by simp, ?_⟩
        change mSeq _ _ _ _ [some (.d (rowD l)), some (.d (.int (t : Nat))), some (.d (.list (es.map hpD))), some (.own (wTab l k)), some (.d (.int (k : Nat))), some (.own (bs.map natD)), some (.d (.int (i : Nat))), a7]
        walk_at "dx"
        rw [hat]
        walk_at "dx"
        rw [show ((i : Nat) : Int) + 1 = ((i + 1 : Nat) : Int) by push_cast; rfl, nat_at (hb (i + 1) (by omega) (by omega)), wTab_last]
        walk_at "dx"
        rw [show ((farE l i : Nat) : Int) + 1 = ((farE l i + 1 : Nat) : Int) by push_cast; rfl, nat_at (wRowL_get (t := k) (show farE l i + 1 ≤ l.length by omega))]
        walk_at "dx"
        have hw := w_step (f := farE l) (n := l.length) (t := k) hil
        obtain ⟨nv, hnv⟩ : ∃ nv, nv = wT (farE l) l.length (k + 1) (l.length - i) := ⟨_, rfl⟩
        rw [← hnv] at hw
        rw [ixN_nat (show i < (bs.map natD).length by rw [List.length_map]; omega)]
        have e : (if ((farE l i : Nat) : Int) - (i : Nat) + 1 + (wT (farE l) l.length k (l.length - (farE l i + 1)) : Nat) > (wT (farE l) l.length (k + 1) (l.length - (i + 1)) : Nat) then ((farE l i : Nat) : Int) - (i : Nat) + 1 + (wT (farE l) l.length k (l.length - (farE l i + 1)) : Nat) else (wT (farE l) l.length (k + 1) (l.length - (i + 1)) : Nat)) = (nv : Nat) := by
          split <;> omega
        dsimp only
        rw [e, show PyData.int (nv : Nat) = natD nv from rfl, ← List.map_set]
        refine hK2 _ ⟨bs.set i nv, _, _, by rw [List.length_set]; exact hl1, fun j h1 h2 => ?_, rfl⟩
        by_cases c : j = i
        · subst c
          rw [List.getElem?_set_self (by omega), hnv]
        · rw [List.getElem?_set_ne (by omega)]
          exact hb j (by omega) h2)).le (by decide +kernel)
theorem push_qp (p : Nat × Bool) : pushOf p = qpD ((p.1 : Nat), sideOf p.2) := rfl
theorem push_qps (ps : List (Nat × Bool)) : ps.map pushOf = (ps.map fun p => (((p.1 : Nat) : Int), sideOf p.2)).map qpD := by rw [List.map_map]; rfl
theorem perm_inv {α β : Type} {g : α → β} {xs ys : List β} (h : xs.Perm ys) : ∀ ps : List α, ys = ps.map g → ∃ qs : List α, qs.Perm ps ∧ qs.map g = xs := by
  induction h with
  | nil => 
    intro ps e
    cases ps with
    | nil => exact ⟨[], List.Perm.refl _, rfl⟩
    | cons _ _ => cases e
  | cons x _ ih =>
    intro ps e
    cases ps with
    | nil => cases e
    | cons p ps =>
      obtain ⟨rfl, e2⟩ := List.cons.inj e
      obtain ⟨qs, h1, h2⟩ := ih ps e2
      exact ⟨p :: qs, h1.cons p, by rw [List.map_cons, h2]⟩
  | swap x y r =>
    intro ps e
    match ps, e with
    | [], e => cases e
    | [_], e => cases e
    | p :: q :: ps, e =>
      obtain ⟨rfl, e2⟩ := List.cons.inj e
      obtain ⟨rfl, rfl⟩ := List.cons.inj e2
      exact ⟨q :: p :: ps, .swap p q ps, rfl⟩
  | trans _ _ ih1 ih2 =>
    intro ps e
    obtain ⟨qs, h1, h2⟩ := ih2 ps e
    obtain ⟨rs, h3, h4⟩ := ih1 qs h2.symm
    exact ⟨rs, h3.trans h1, h4⟩
/-- sorting pushes gives the same ones in another order -/
theorem sort_push (ps : List (Nat × Bool)) : ∃ qs : List (Nat × Bool), qs.Perm ps ∧ (sortH (ps.map fun p => (((p.1 : Nat) : Int), sideOf p.2))).map qpD = qs.map pushOf := by
  obtain ⟨qs, h1, h2⟩ : ∃ qs : List (Nat × Bool), qs.Perm ps ∧ qs.map (fun p => (((p.1 : Nat) : Int), sideOf p.2)) = sortH (ps.map fun p => (((p.1 : Nat) : Int), sideOf p.2)) := by
    exact perm_inv (sortH_perm (ps := ps.map fun p => (((p.1 : Nat) : Int), sideOf p.2))) ps rfl
  exact ⟨qs, h1, by rw [push_qps, h2]⟩
noncomputable def spansP (l : SRow) (ps : List (Nat × Bool)) : List (Nat × Nat) := ps.map (spanOf l)
def mf_most_felled : MF := fun as R ex => ∃ (l : SRow) (v : PyData), as = [.d (rowD l), .d v] ∧ Inc l ∧ l.length ≤ 1000 ∧ (isInt v 0 (l.length : Nat) = false → ex (noIndex v)) ∧ ∀ t : Nat, v = .int (t : Nat) → t ≤ l.length →
  ∀ ps : List (Nat × Bool), (∀ p ∈ ps, p.1 < l.length) → ps.length ≤ t → cntC (spansP l ps) l.length = wT (farE l) l.length t l.length → R (.d (.tuple [natD (wT (farE l) l.length t l.length), .tuple (ps.map pushOf)]))
theorem d_most_felled {f : Addr} {fd : FuncData} (T : Txt K mg) (hm : mg "most_felled" = some (.ref f)) (F0 : L2.Fun K "most_felled" "most_felled" s_most_felled f fd) (hb : Binds K fd ["row", "many"] []) (F_check_index : DFn P w K mg base CK "check_index" 3 0 2 mf_check_index) (F_best_from : DFn P w K mg base CK "best_from" 5 0 2 mf_best_from) (F_far_ends : DFn P w K mg base CK "far_ends" 4 0 1 mf_far_ends) : DFn P w K mg base CK "most_felled" 6 0 2 mf_most_felled :=
  (dfn_of hm F0 hb sc_most_felled (fun cdv A outer s H E cx =>
 (dss_cons (ds_expr (de_call cx F_check_index (by decide) (by rfl) (da_cons (de_pv 1) (da_cons (de_add (de_len (by rfl) T.n_len (da_cons (de_pv 0) da_nil)) de_int) da_nil))))
 (dss_cons (ds_par2 (i := 2) (j := 3) (by rfl) sc_most_felled.nd rfl rfl (by decide) rfl rfl (da_cons (de_call cx F_best_from (by decide) (by rfl) (da_cons (de_pv 0) (da_cons (de_pv 1) da_nil))) (da_cons (de_call cx F_far_ends (by decide) (by rfl) (da_cons (de_pv 0) da_nil)) da_nil)) (by rfl))
 (dss_cons (ds_par3 (i := 4) (j := 5) (l := 6) (by rfl) sc_most_felled.nd rfl rfl rfl (by decide) (by decide) (by decide) rfl rfl rfl (da_cons de_int (da_cons (de_pv 1) (da_cons (de_lst da_nil) da_nil))) (by rfl))
 (dss_cons (ds_while (Ctx.passes rfl) (DW.dt (dw_and (dt_gt (de_pv 5) de_int) (dw_and1 (dt_lt (de_pv 4) (de_len (by rfl) T.n_len (da_cons (de_pv 0) da_nil)))))) (dss_one (ds_if (dt_eq cx.u (de_ix (de_ix (de_pv 2) (de_pv 5)) (de_pv 4)) (de_ix (de_ix (de_pv 2) (de_pv 5)) (de_add (de_pv 4) de_int))) (dss_one (ds_aug (i := 4) sc_most_felled.nd rfl (by first | exact Or.inl rfl | exact Or.inr rfl) de_int ip_add)) (dss_cons (ds_mut PySem.F.slot_list_append PySem.F.type_list_append mt_append mut_app (pv 6) (da_cons (de_ix (de_ix (de_pv 3) (de_pv 4)) de_int) da_nil))
 (dss_cons (ds_set (i := 4) sc_most_felled.nd rfl (by first | exact Or.inl rfl | exact Or.inr rfl) (de_add (de_ix (de_ix (de_pv 3) (de_pv 4)) de_int) de_int))
 (dss_one (ds_aug (i := 5) sc_most_felled.nd rfl (by first | exact Or.inl rfl | exact Or.inr rfl) de_int ip_sub)))))))
 (dss_one (ds_ret (de_tup (da_cons (de_ix (de_ix (de_pv 2) (de_pv 1)) de_int) (da_cons (de_tupleC (by rfl) T.n_tuple (da_cons (de_sortedH cx.u (by rfl) T.n_sorted (da_cons (de_pv 6) da_nil)) da_nil)) da_nil))))))))))
  (by
    rintro as R ex hl ⟨l, v, rfl, I, hn, h0, h⟩
    have hlen : oLen (.d (rowD l)) = fun R => R (.d (.int l.length)) := by
      unfold rowD
      funext R
      walk_at "dx"
      rw [List.length_map]
    walk_at "dx"
    rw [hlen]
    walk_at "dx"
    refine ⟨v, _, rfl, fun hv => ?_, fun hv => h0 (by rw [← hv]; congr 1; omega)⟩
    rw [show ((l.length : Nat) : Int) + 1 - 1 = ((l.length + 1 : Nat) : Int) - 1 by push_cast; rfl] at hv
    obtain ⟨t, rfl, ht⟩ : ∃ t : Nat, v = .int (t : Nat) ∧ t ≤ l.length := by
      cases v with
      | int i =>
        simp only [isInt, Bool.and_eq_true, decide_eq_true_eq] at hv
        exact ⟨i.toNat, by rw [Int.toNat_of_nonneg hv.1], by omega⟩
      | _ => simp [isInt] at hv
    replace h := h t rfl ht
    have C := cov_of I
    refine ⟨l, t, rfl, I, hn, by omega, ?_⟩
    refine ⟨l, rfl, I, fun es hE => ?_⟩
    refine ⟨rfl, rfl, by walk_at "lim", ?_⟩
    refine ⟨fun n δ => ∃ (ps : List (Nat × Bool)) (i lf : Nat), δ = [some (.d (rowD l)), some (.d (.int (t : Nat))), some (.d (.list (wTab l t))), some (.d (.list (es.map hpD))), some (.d (.int (i : Nat))), some (.d (.int (lf : Nat))), some (.own (ps.map pushOf))] ∧ n = l.length - i ∧ ps.length + lf = t ∧ (∀ p ∈ ps, p.1 < l.length) ∧ i ≤ l.length ∧ wT (farE l) l.length t l.length ≤ cntC (spansP l ps) i + wT (farE l) l.length lf (l.length - i), ⟨_, [], 0, t, rfl, rfl, by simp, fun p hp => (by cases hp), Nat.zero_le _, by rw [Nat.sub_zero]; omega⟩, ?_⟩
    rintro n δ ⟨ps, i, lf, rfl, rfl, hlf, hps, hi, hw⟩
    have fin : wT (farE l) l.length lf (l.length - i) = 0 → mRet (mTup (mCons (mBin oIx (mBin oIx (mVar 2) (mVar 1)) (mC (.int 0))) (mCons (mCB (o1 oTuple) (mCons (mCB (o1 oSortH) (mCons (mVar 6) mNil)) mNil)) mNil))) (fun e x => ex e) { nx := fun x => R (.d .none), rt := R, bk := fun x => False, ct := fun x => False } [some (.d (rowD l)), some (.d (.int (t : Nat))), some (.d (.list (wTab l t))), some (.d (.list (es.map hpD))), some (.d (.int (i : Nat))), some (.d (.int (lf : Nat))), some (.own (ps.map pushOf))] := fun hz => by
      obtain ⟨qs, q1, q2⟩ := sort_push ps
      walk_at "dx"
      rw [wTab_get (Nat.le_refl t)]
      walk_at "dx"
      rw [show atI ((wRowL l t).map natD) 0 = some (natD (wT (farE l) l.length t l.length)) from atI_map (f := natD) 0 rfl (by rw [wRowL_get (Nat.zero_le _), Nat.sub_zero])]
      walk_at "dx"
      rw [push_qps, qpsL_map]
      dsimp only
      rw [q2]
      refine ⟨by walk_at "lim", h qs (fun p hp => hps p (q1.mem_iff.mp hp)) (by rw [q1.length_eq]; omega) ?_⟩
      have hS : ∀ q ∈ spansP l qs, q ∈ spN l := fun q hq => by
        obtain ⟨p, hp, rfl⟩ := List.mem_map.mp hq
        exact span_sp (hps p (q1.mem_iff.mp hp))
      have h1 := cnt_le_v (S := spN l) qs.length l.length (spansP l qs) (by unfold spansP; rw [List.length_map]) hS
      have h2 := v_many (S := spN l) (j := l.length) (show qs.length ≤ t by rw [q1.length_eq]; omega)
      rw [← w_eq_v C t] at h2
      have h3 : cntC (spansP l ps) l.length ≤ cntC (spansP l qs) l.length := cnt_sub fun x _ hc => by
        obtain ⟨z, hz, z1⟩ := cov_iff.mp hc
        obtain ⟨p, hp, rfl⟩ := List.mem_map.mp hz
        exact cov_iff.mpr ⟨_, List.mem_map.mpr ⟨p, q1.mem_iff.mpr hp, rfl⟩, z1⟩
      have h4 := (cnt_up (P := spansP l ps) (i := i) (l.length - i)).1
      rw [show i + (l.length - i) = l.length by omega] at h4
      omega
    walk_at "dx"
    rw [hlen]
    walk_at "dx"
    refine ⟨fun c => ⟨fun c2 => ?_, fun c2 => ?_⟩, fun c => ?_⟩
    · have hil : i < l.length := by omega
      obtain ⟨p, hp, hat⟩ := hE.get hil
      have hf1 := far_own I hil
      have hf2 := far_lt I hil
      rw [wTab_get (show lf ≤ t by omega)]
      walk_at "dx"
      rw [show ((i : Nat) : Int) + 1 = ((i + 1 : Nat) : Int) by push_cast; rfl, nat_at (wRowL_get (show i ≤ l.length by omega)), nat_at (wRowL_get (show i + 1 ≤ l.length by omega)), hat]
      walk_at "dx"
      rw [if_pos (show (ps.map pushOf).length < sizeLine from by rw [List.length_map]; walk_at "lim")]
      obtain ⟨k, rfl⟩ : ∃ k, lf = k + 1 := ⟨lf - 1, by omega⟩
      have hs := w_step (f := farE l) (n := l.length) (t := k) hil
      refine ⟨fun e => ⟨l.length - (i + 1), by omega, ps, i + 1, k + 1, rfl, rfl, by omega, hps, by omega, ?_⟩, fun e => ⟨l.length - (farE l i + 1), by omega, ps ++ [p], farE l i + 1, k, ?_, rfl, by rw [List.length_append, List.length_singleton]; omega, fun q hq => ?_, by omega, ?_⟩⟩
      · have e : wT (farE l) l.length (k + 1) (l.length - i) = wT (farE l) l.length (k + 1) (l.length - (i + 1)) := by omega
        have h4 := (cnt_up (P := spansP l ps) (i := i) 1).1
        omega
      · rw [List.map_append (f := pushOf)]
        rw [show (((k + 1 : Nat) : Int) - 1) = (k : Nat) by push_cast; omega]
        rfl
      · rcases List.mem_append.mp hq with hq | hq
        · exact hps q hq
        · cases List.mem_singleton.mp hq
          exact hp.1
      · have hg := cnt_grow (P := spansP l ps) (q := spanOf l p) (i := i) hp.2.1 (by rw [hp.2.2]; exact hf1)
        rw [hp.2.2] at hg
        have e2 : spansP l (ps ++ [p]) = spansP l ps ++ [spanOf l p] := by unfold spansP; rw [List.map_append]; rfl
        rw [e2]
        omega
    · have : i = l.length := by omega
      refine fin ?_
      rw [this, Nat.sub_self, w_nil]
    · have : lf = 0 := by omega
      refine fin ?_
      rw [this]
      rfl)).le (by decide +kernel)
theorem d__law_opened {f : Addr} {fd : FuncData} (T : Txt K mg) (hm : mg "_law_opened" = some (.ref f)) (F0 : L2.Fun K "_law_opened" "_law_opened" s__law_opened f fd) (hb : Binds K fd ["_law_script"] []) : DBag P w K mg base := by
  refine ⟨f, fd, _, hm, F0.kp, hb, rfl, fnG_of F0 sc__law_opened (fun vs H Q E h => ?_) fun cdv A outer s H vs Q E hg hr h => ?_⟩
  · obtain ⟨a, ns, rfl, _⟩ := h
    rfl
  · obtain ⟨a, ns, rfl, hl, hS, k⟩ := h
    have cx : DL.Ctx (cxOf (L2.CX P w) P w K mg base ["_law_script", "_law_great", "_law_small", "_law_cell"] "_law_opened" (defScope s__law_opened) f cdv A outer s H E) ⟨fun _ _ _ _ => False, fun _ _ _ _ => True⟩ 0 := ⟨hg, hr, takes0⟩
    refine ⟨_, pss_cons (DS.ps (W := ⟨fun _ _ _ _ => False, fun _ _ _ _ => True⟩) (ds_par2 (i := 1) (j := 2) (by rfl) sc__law_opened.nd rfl rfl (by decide) rfl rfl (da_cons de_int (da_cons (de_add de_int (de_len (by rfl) T.n_len (da_cons (de_pv 0) da_nil))) da_nil)) (by rfl))) (pss_cons (DS.ps (W := ⟨fun _ _ _ _ => False, fun _ _ _ _ => True⟩) (ds_for (Ctx.passes rfl) (by rfl) (di_list (de_slice (de_pv 0) do_none (do_some de_int))) (dg_name (i := 3) sc__law_opened.nd rfl (by first | exact Or.inl rfl | exact Or.inr rfl)) (dss_one (ds_if (dt_lt (de_abs (by rfl) T.n_abs (da_cons (de_pv 3) da_nil)) (de_pow de_int de_int)) (dss_one (ds_set (i := 2) sc__law_opened.nd rfl (by first | exact Or.inl rfl | exact Or.inr rfl) (de_mod (de_add (de_add (de_mul (de_pv 2) de_int) (de_mul de_int (de_abs (by rfl) T.n_abs (da_cons (de_pv 3) da_nil)))) (de_intC (by rfl) T.n_int (da_cons (de_lt (de_pv 3) de_int) da_nil))) de_int))) (dss_one (ds_if (dt_eq cx.u (de_pv 1) de_int) (dss_one (ds_set (i := 1) sc__law_opened.nd rfl (by first | exact Or.inl rfl | exact Or.inr rfl) (de_abs (by rfl) T.n_abs (da_cons (de_pv 3) da_nil)))) dss_nil))))))
      (pss_one (ps_ret (pe_disp (pps_cons pe_str (pv 1) (pps_cons pe_str (pv 2) (pps_cons pe_str pe_int pps_nil))) (by rfl) (by rfl) (fun z => by cases z) (by show 3 ≤ 15; decide))))), ?_⟩
    have nol : ∀ {u : Nat} {G : Gm} {τ : DL.Env} {ts : L2.St}, Link K mg ⟨fun _ _ _ _ => False, fun _ _ _ _ => True⟩ u G τ ts (fun _ _ => False) := fun _ _ _ _ _ _ _ _ _ _ _ _ _ _ z => z
    have nb : ∀ {x y z : Option DV}, (∀ t, x = some t → t.isBor = false) → (∀ t, y = some t → t.isBor = false) → (∀ t, z = some t → t.isBor = false) → NoBor ([some (.scr ns), x, y, z] ++ []) := fun {x y z} h1 h2 h3 i t e => by
      match i, e with
      | 0, e => cases e; rfl
      | 1, e => simp at e; exact h1 t e
      | 2, e => simp at e; exact h2 t e
      | 3, e => simp at e; exact h3 t e
      | i + 4, e => simp at e
    have no0 : ∀ t, (none : Option DV) = some t → t.isBor = false := fun t e => by cases e
    have noI : ∀ {i : Int} t, some (DV.d (.int i)) = some t → t.isBor = false := fun t e => by cases e; rfl
    have last : ∀ (g z : Int) (σ : L2.St) (F1 H1 : Hp) (a3 : Option DV) (G : Gm), σ.length = 4 → 0 ≤ z → z < 2 ^ 63 → Good G F1 [some (.scr ns), some (.d (.int g)), some (.d (.int z)), a3] σ H1 → (tDisp [(tC (.str "great"), tVar 1), (tC (.str "small"), tVar 2), (tC (.str "drawn"), tC (.int 0))]) σ H1 Q := fun g z σ F1 H1 a3 G hl q0 q1 gg => by
      obtain ⟨v1, e1, h1⟩ := gg.sl 1 _ rfl
      obtain ⟨v2, e2, h2⟩ := gg.sl 2 _ rfl
      cases int_of h1
      cases int_of h2
      have n1 : ("great" : Str) ≠ "small" := by decide +kernel
      have n2 : ("great" : Str) ≠ "drawn" := by decide +kernel
      have n3 : ("small" : Str) ≠ "drawn" := by decide +kernel
      intro p hp
      refine ⟨.int g, e1, .int z, e2, upd_same, [(.inr "great", .int g), (.inr "small", .int z), (.inr "drawn", .int 0)], rfl, by show 3 ≤ 15; decide, ?_⟩
      refine k p _ ⟨g, z, 0, ?_, q0, q1, Int.le_refl _, Int.le_refl _⟩
      rw [upd_same]
      simp [mergeK, putK, bagK, n1, n2, n3, n1.symm, n2.symm, n3.symm]
    refine ⟨fun _ _ => False, _, _, [some (.scr ns), none, none, none], [], [], ⟨fun δ => ∃ (g z : Int), δ = [some (.scr ns), some (.d (.int g)), some (.d (.int z)), none] ∧ 0 ≤ z ∧ z < 2 ^ 63, fun _ => False, fun _ => False, fun _ => False⟩, ⟨rfl, rfl, rfl, good_script hS 3 0, nol, trivial, Nat.le_refl _⟩, nb no0 no0 no0, ⟨?_, fun _ z => z.elim, fun _ z => z.elim, fun _ z => z.elim⟩, ?_⟩
    · rintro δ ⟨g, z, rfl, z0, z1⟩ b σ F1 H1 hb hl1 nb1 g1
      cases Nat.le_zero.mp hb
      have g1' := g1
      simp only [List.append_nil] at g1'
      refine ⟨fun _ _ => False, _, F1, [some (.scr ns), some (.d (.int g)), some (.d (.int z)), none], [], [], ⟨fun δ => ∃ (g z : Int) (a3 : Option DV), δ = [some (.scr ns), some (.d (.int g)), some (.d (.int z)), a3] ∧ 0 ≤ z ∧ z < 2 ^ 63, fun _ => False, fun _ => False, fun _ => False⟩, ⟨rfl, hl1, rfl, by simpa using g1', nol, trivial, Nat.le_refl _⟩, nb noI noI no0, ⟨?_, fun _ z => z.elim, fun _ z => z.elim, fun _ z => z.elim⟩, ?_⟩
      · rintro δ ⟨g, z, a3, rfl, z0, z1⟩ b σ F1 H1 hb hl1 nb1 g1
        simp only [List.append_nil] at g1
        exact last g z σ F1 H1 a3 _ hl1.symm z0 z1 g1
      · walk_at "dl"
        have e62 : cutD (ns.map PyData.int) none (some 62) = (ns.take 62).map PyData.int := by rw [cut_pre (by decide), List.map_take]; rfl
        rw [e62]
        refine ⟨by simp [DV.isBor], ?_⟩
        refine for_ind (fun ds δ => (∃ ms : List Int, ds = ms.map PyData.int) ∧ ∃ (g z : Int) (a3 : Option DV), δ = [some (.scr ns), some (.d (.int g)), some (.d (.int z)), a3] ∧ 0 ≤ z ∧ z < 2 ^ 63) ?_ ?_ _ _ ⟨⟨_, rfl⟩, g, z, none, rfl, z0, z1⟩
        · rintro δ ⟨_, g, z, a3, rfl, z0, z1⟩
          exact ⟨g, z, a3, rfl, z0, z1⟩
        · rintro x ds δ Kn ⟨⟨ms, hms⟩, g, z, a3, rfl, z0, z1⟩ hK
          cases ms with
          | nil => cases hms
          | cons n ms =>
            obtain ⟨rfl, rfl⟩ := List.cons.inj hms
            walk_at "dx"
            have m0 := Int.emod_nonneg ((z * 524287 + 2 * if n < 0 then -n else n) + if n < 0 then 1 else 0) (show (9223372036854775783 : Int) ≠ 0 by decide)
            have m1 := Int.emod_lt_of_pos ((z * 524287 + 2 * if n < 0 then -n else n) + if n < 0 then 1 else 0) (show (0 : Int) < 9223372036854775783 by decide)
            generalize ((z * 524287 + 2 * if n < 0 then -n else n) + if n < 0 then 1 else 0) % 9223372036854775783 = A at m0 m1 ⊢
            exact ⟨fun _ => ⟨.inr ⟨by decide, by decide⟩, .inl ⟨by decide, by decide⟩, by decide, hK _ ⟨⟨ms, rfl⟩, _, A, _, rfl, m0, by omega⟩⟩, fun _ => ⟨fun _ => hK _ ⟨⟨ms, rfl⟩, _, z, _, rfl, z0, z1⟩, fun _ => hK _ ⟨⟨ms, rfl⟩, _, z, _, rfl, z0, z1⟩⟩⟩
    · walk_at "dl"
      exact ⟨_, _, rfl, by omega, by omega⟩
theorem d__law_take {f : Addr} {fd : FuncData} (T : Txt K mg) (hm : mg "_law_take" = some (.ref f)) (F0 : L2.Fun K "_law_take" "_law_take" s__law_take f fd) (hb : Binds K fd ["_law_bag", "_law_many"] []) : DFn P w K mg base CK "_law_take" 1 1 2 mf__law_take := by
  refine ⟨f, fd, _, hm, F0.kp, hb, rfl, fnG_of F0 sc__law_take (fun vs H Q E q => q.1) fun cdv A outer s H vs Q E hg hr q => ?_⟩
  obtain ⟨hn, G, F, as, R, ex, hK, ⟨⟨c, hC, hcv, hJ, hlim⟩, hnu⟩, hl, harg, g, ⟨m, rfl, hm0, hm1, hR⟩, hQ, hE⟩ := q
  obtain ⟨v1, v2, rfl, h1, h2, _⟩ := two_of (A := []) (A' := []) hl (by simpa using g)
  have e1 : v1 = .ref c := by rw [← hcv]; exact h1
  subst e1
  cases int_of h2
  have hj := g.jh
  rw [hJ] at hj
  obtain ⟨gr, sm, dn, hc, hs0, hs1, hd0, hd1⟩ := hj
  have hdl : dn ≤ 2 ^ 40 := by rw [hlim] at hnu; omega
  have hu := hu_of hr
  have hu64 := hr.units
  have hu1 := Nat.lt_of_le_of_lt (Nat.add_le_add_left (show 1 ≤ 64 by decide) _) hr.units
  have n1 : ("great" : Str) ≠ "small" := by decide +kernel
  have n2 : ("great" : Str) ≠ "drawn" := by decide +kernel
  have n3 : ("small" : Str) ≠ "drawn" := by decide +kernel
  refine ⟨_, pss_cons (ps_if (pt_cmpR op_gt (pe_dget hu1 (pv 0) pe_str (fun _ _ => rfl)) pe_int (nomark _))
      (pss_cons (ps_set (i := 2) sc__law_take.nd rfl (Or.inl rfl) (pe_op op_mod (pe_dget hu1 (pv 0) pe_str (fun _ _ => rfl)) (pv 1)))
      (pss_cons (ps_dput hu1 (pv 0) pe_str (pe_op op_fdivW (pe_dget hu1 (pv 0) pe_str (fun _ _ => rfl)) (pv 1)) (by rfl))
      (pss_one (ps_ret (pv 2))))) pss_nil)
    (pss_cons (ps_set (i := 3) sc__law_take.nd rfl (Or.inl rfl) (pe_op op_add (pe_dget hu1 (pv 0) pe_str (fun _ _ => rfl)) pe_int))
    (pss_cons (ps_dput hu1 (pv 0) pe_str (pv 3) (by rfl))
    (pss_cons (ps_set (i := 4) sc__law_take.nd rfl (Or.inl rfl) (pe_op op_mod (pe_op op_mul (pe_op op_add (pe_dget hu1 (pv 0) pe_str (fun _ _ => rfl)) (pe_op op_mul pe_int (pv 3))) (pe_op op_add (pe_op op_mul pe_int (pv 3)) pe_int)) pe_int))
    (pss_cons (ps_set (i := 4) sc__law_take.nd rfl (Or.inl rfl) (pe_op op_mod (pe_op op_mul (pv 4) (pv 4)) pe_int))
    (pss_one (ps_ret (pe_op op_mod (pe_op op_fdivW (pe_op op_mod (pe_op op_mul (pv 4) (pe_op op_add (pe_op op_mod (pv 4) pe_int) pe_int)) pe_int) pe_int) (pv 1)))))))), ?_⟩
  have fin : ∀ (H' : Hp) (gr' sm' dn' : Int) (r : Int), H' c = some (.dK (bagK gr' sm' dn')) → 0 ≤ sm' → sm' < 2 ^ 63 → 0 ≤ dn' → dn' ≤ G.n + 1 → (∀ p, p ≠ c → ∀ o, H p = some o → H' p = some o) → 0 ≤ r → r < m → Q (.int r) H' := fun H' gr' sm' dn' r q1 q2 q3 q4 q4' q5 q6 q7 => by
    refine hQ (.d (.int r)) (hR r q6 q7) rfl (.int r) F H' ?_
    have g0 : Good (G.up 1) F ([] : DL.Env) ([] : L2.St) H' := g.draw (k := 1) (fun p np o e => by
      rw [hC] at np
      exact q5 p np o e) (by
      rw [hJ]
      exact ⟨gr', sm', dn', q1, q2, q3, q4, by push_cast; exact q4'⟩)
    exact Good.pushD (δ := []) (σ := []) g0 (.int r)
  have gG : ∀ {H' : Hp} {g s d : Int}, H' c = some (.dK (bagK g s d)) → DGet H' c (.str "great") (some (.int g)) := fun {H' g s d} e => by
    have := DGet.k (k := .inr "great") e
    rwa [show valV (bagK g s d) (.inr "great") = some (.int g) from rfl] at this
  have gS : ∀ {H' : Hp} {g s d : Int}, H' c = some (.dK (bagK g s d)) → DGet H' c (.str "small") (some (.int s)) := fun {H' g s d} e => by
    have := DGet.k (k := .inr "small") e
    rwa [show valV (bagK g s d) (.inr "small") = some (.int s) by simp [valV, bagK, n1, n2, n3]] at this
  have gD : ∀ {H' : Hp} {g s d : Int}, H' c = some (.dK (bagK g s d)) → DGet H' c (.str "drawn") (some (.int d)) := fun {H' g s d} e => by
    have := DGet.k (k := .inr "drawn") e
    rwa [show valV (bagK g s d) (.inr "drawn") = some (.int d) by simp [valV, bagK, n1, n2, n3]] at this
  refine ⟨.ref c, rfl, c, .int gr, rfl, gG hc, gr, 0, rfl, rfl, _, rfl, ?_⟩
  refine ite2 (fun c0 => ?_) (fun c0 => ?_)
  · refine ⟨.ref c, rfl, c, .int gr, rfl, gG hc, .int m, rfl, gr, m, rfl, rfl, hm0, ?_⟩
    refine ⟨.ref c, rfl, c, .int gr, rfl, gG hc, .int m, rfl, gr, m, rfl, rfl, cdiv hm0 hm1, ?_⟩
    refine ⟨.ref c, rfl, c, _, rfl, DPut.k (k := .inr "great") hc (by show 3 < sizeLine; decide), ?_⟩
    refine ⟨.int (gr % m), rfl, ?_⟩
    refine fin _ (gr / m) sm dn _ (by rw [upd_same]; rfl) hs0 hs1 hd0 (by omega) (fun p np o e => by rw [upd_ne np]; exact e) (Int.emod_nonneg _ (by omega)) (Int.emod_lt_of_pos _ hm0)
  · refine ⟨.ref c, rfl, c, .int dn, rfl, gD hc, dn, 1, rfl, rfl, ?_⟩
    refine ⟨.int (dn + 1), rfl, .ref c, rfl, c, _, rfl, DPut.k (k := .inr "drawn") hc (by show 3 < sizeLine; decide), ?_⟩
    obtain ⟨H2, hH2⟩ : ∃ H2, H2 = upd H c (.dK (putK (bagK gr sm dn) (.inr "drawn") (.int (dn + 1)))) := ⟨_, rfl⟩
    rw [← hH2]
    have y1 : H2 c = some (.dK (bagK gr sm (dn + 1))) := by rw [hH2, upd_same]; simp [putK, bagK, n1, n2, n3]
    have y2 : ∀ p, p ≠ c → ∀ o, H p = some o → H2 p = some o := fun p np o e => by rw [hH2, upd_ne np]; exact e
    refine ⟨.ref c, rfl, c, .int sm, rfl, gS y1, .int (dn + 1), rfl, 40503, dn + 1, rfl, rfl, .inl ⟨by decide, by decide⟩, sm, _, rfl, rfl, .int (dn + 1), rfl, 2, dn + 1, rfl, rfl, .inl ⟨by decide, by decide⟩, _, 131071, rfl, rfl, _, _, rfl, rfl, .inl ⟨by omega, by omega⟩, _, 9223372036854775783, rfl, rfl, (by show (0 : Int) < _; decide), ?_⟩
    show gName _ (.int ((sm + 40503 * (dn + 1)) * (2 * (dn + 1) + 131071) % 9223372036854775783)) _ _ _
    have a0 := Int.emod_nonneg ((sm + 40503 * (dn + 1)) * (2 * (dn + 1) + 131071)) (show (9223372036854775783 : Int) ≠ 0 by decide)
    have a1 := Int.emod_lt_of_pos ((sm + 40503 * (dn + 1)) * (2 * (dn + 1) + 131071)) (show (0 : Int) < 9223372036854775783 by decide)
    generalize (sm + 40503 * (dn + 1)) * (2 * (dn + 1) + 131071) % 9223372036854775783 = A at a0 a1 ⊢
    refine ⟨.int A, rfl, .int A, rfl, A, A, rfl, rfl, .inl ⟨by omega, by omega⟩, _, 9223372036854775783, rfl, rfl, (by show (0 : Int) < _; decide), ?_⟩
    show gName _ (.int (A * A % 9223372036854775783)) _ _ _
    have b0 := Int.emod_nonneg (A * A) (show (9223372036854775783 : Int) ≠ 0 by decide)
    have b1 := Int.emod_lt_of_pos (A * A) (show (0 : Int) < 9223372036854775783 by decide)
    generalize A * A % 9223372036854775783 = B at b0 b1 ⊢
    refine ⟨.int B, rfl, .int B, rfl, B, 65521, rfl, rfl, (by show (0 : Int) < _; decide), _, 1, rfl, rfl, B, _, rfl, rfl, .inl ⟨by omega, by omega⟩, _, 9223372036854775783, rfl, rfl, (by show (0 : Int) < _; decide), _, 8192, rfl, rfl, cdiv (by decide) (by decide), .int m, rfl, _, m, rfl, rfl, hm0, ?_⟩
    exact fin H2 gr sm (dn + 1) _ y1 hs0 hs1 (by omega) (by omega) y2 (Int.emod_nonneg _ (by omega)) (Int.emod_lt_of_pos _ hm0)
/-- a row as it is taken -/
structure RowC (l : SRow) : Prop where
  i : Inc l
  n : l.length ≤ 64
  b : ∀ i, i < l.length → 0 ≤ pl l i ∧ pl l i ≤ 10000000000000 ∧ 1 ≤ ht l i ∧ ht l i ≤ 10000000000000
theorem sz_rowC {l : SRow} (h : RowC l) : Sz (rowD l) 2 (4 + 64 * (4 + 2 * (1922 + 2) + 2)) := by
  refine Sz.tup (fun x hx => ?_) (by rw [List.length_map]; exact h.n)
  obtain ⟨p, hp, rfl⟩ := List.mem_map.mp hx
  obtain ⟨i, hi, e1, e2⟩ := row_mem hp
  have := h.b i hi
  exact Sz.pair (Sz.int' ⟨by omega, by omega⟩) (Sz.int' ⟨by omega, by omega⟩)
structure RowG (l : SRow) (w pp : Int) : Prop where
  inc : ∀ i j, i < j → j < l.length → pl l i < pl l j
  lt : ∀ i, i < l.length → pl l i < pp
  b : ∀ i, i < l.length → 0 ≤ pl l i ∧ pl l i ≤ w + i * w ∧ 1 ≤ ht l i ∧ ht l i ≤ 10000000000000
theorem plA {l : SRow} {p : Int × Int} {i : Nat} (h : i < l.length) : pl (l ++ [p]) i = pl l i ∧ ht (l ++ [p]) i = ht l i := by
  unfold pl ht
  rw [List.getD_eq_getElem?_getD, List.getD_eq_getElem?_getD, List.getElem?_append_left h]
  exact ⟨rfl, rfl⟩
theorem plE {l : SRow} {p : Int × Int} : pl (l ++ [p]) l.length = p.1 ∧ ht (l ++ [p]) l.length = p.2 := by
  unfold pl ht
  rw [List.getD_eq_getElem?_getD, List.getElem?_append_right (Nat.le_refl _)]
  simp
theorem RowG.snoc {l : SRow} {w pp q h : Int} (r : RowG l w pp) (h0 : 0 ≤ pp) (h1 : pp ≤ w + l.length * w) (hq : pp < q) (h2 : 1 ≤ h) (h3 : h ≤ 10000000000000) : RowG (l ++ [(pp, h)]) w q := by
  refine ⟨fun i j a b => ?_, fun i a => ?_, fun i a => ?_⟩
  · rw [List.length_append, List.length_singleton] at b
    rw [(plA (p := (pp, h)) (show i < l.length by omega)).1]
    rcases Nat.lt_or_ge j l.length with c | c
    · rw [(plA c).1]; exact r.inc i j a c
    · have : j = l.length := by omega
      subst this
      rw [plE.1]
      exact r.lt i a
  · rw [List.length_append, List.length_singleton] at a
    rcases Nat.lt_or_ge i l.length with c | c
    · rw [(plA c).1]
      have := r.lt i c
      omega
    · have : i = l.length := by omega
      subst this
      rw [plE.1]
      exact hq
  · rw [List.length_append, List.length_singleton] at a
    rcases Nat.lt_or_ge i l.length with c | c
    · rw [(plA c).1, (plA c).2]
      exact r.b i c
    · have : i = l.length := by omega
      subst this
      rw [plE.1, plE.2]
      exact ⟨h0, h1, h2, h3⟩
theorem four_of {a b c d : PyData} {z : Int} (z0 : 0 ≤ z) (z1 : z < 4) : atI [a, b, c, d] z = some a ∨ atI [a, b, c, d] z = some b ∨ atI [a, b, c, d] z = some c ∨ atI [a, b, c, d] z = some d := by
  have : z = 0 ∨ z = 1 ∨ z = 2 ∨ z = 3 := by omega
  rcases this with rfl | rfl | rfl | rfl
  · exact .inl rfl
  · exact .inr (.inl rfl)
  · exact .inr (.inr (.inl rfl))
  · exact .inr (.inr (.inr rfl))
def mf__law_stones : MF := fun as R _ => ∃ n w : Int, as = [.cask, .d (.int n), .d (.int w)] ∧ 0 < n ∧ n ≤ 64 ∧ 0 < w ∧ w ≤ 100000000000 ∧ ∀ l, RowC l → (l.length : Int) ≤ n → R (.d (rowD l))
theorem d__law_stones {f : Addr} {fd : FuncData} (T : Txt K mg) (hm : mg "_law_stones" = some (.ref f)) (F0 : L2.Fun K "_law_stones" "_law_stones" s__law_stones f fd) (hb : Binds K fd ["_law_bag", "_law_bound", "_law_wide"] []) (F__law_take : DFn P w K mg base CK "_law_take" 1 1 2 mf__law_take) : DFn P w K mg base CK "_law_stones" 2 323 3 mf__law_stones :=
  (dfn_of hm F0 hb sc__law_stones (fun cdv A outer s H E cx =>
 (dss_cons (ds_par2 (i := 3) (j := 4) (by rfl) sc__law_stones.nd rfl rfl (by decide) rfl rfl (da_cons (de_add de_int (de_call cx F__law_take (by decide) (by rfl) (da_cons (de_pv 0) (da_cons (de_pv 1) da_nil)))) (da_cons (de_call cx F__law_take (by decide) (by rfl) (da_cons (de_pv 0) (da_cons de_int da_nil))) da_nil)) (by rfl))
 (dss_cons (ds_set (i := 5) sc__law_stones.nd rfl (by first | exact Or.inl rfl | exact Or.inr rfl) (de_ix (de_lst (da_cons de_int (da_cons de_int (da_cons de_int (da_cons (de_pv 2) da_nil))))) (de_pv 4)))
 (dss_cons (ds_par2 (i := 6) (j := 7) (by rfl) sc__law_stones.nd rfl rfl (by decide) rfl rfl (da_cons (de_lst da_nil) (da_cons (de_call cx F__law_take (by decide) (by rfl) (da_cons (de_pv 0) (da_cons (de_pv 5) da_nil))) da_nil)) (by rfl))
 (dss_cons (ds_forN 64 (Ctx.passes rfl) (by rfl) (di_range1 (by rfl) T.n_range (da_cons (de_pv 3) da_nil)) (dg_name (i := 8) sc__law_stones.nd rfl (by first | exact Or.inl rfl | exact Or.inr rfl)) (dss_cons (ds_set (i := 9) sc__law_stones.nd rfl (by first | exact Or.inl rfl | exact Or.inr rfl) (de_lst (da_cons de_int (da_cons (de_add de_int (de_call cx F__law_take (by decide) (by rfl) (da_cons (de_pv 0) (da_cons (de_pv 5) da_nil)))) (da_cons (de_add de_int (de_call cx F__law_take (by decide) (by rfl) (da_cons (de_pv 0) (da_cons (de_mul de_int (de_pv 5)) da_nil)))) (da_cons (de_add de_int (de_call cx F__law_take (by decide) (by rfl) (da_cons (de_pv 0) (da_cons (de_mul (de_pv 3) (de_pv 5)) da_nil)))) da_nil))))))
 (dss_cons (ds_mut PySem.F.slot_list_append PySem.F.type_list_append mt_append mut_app (pv 6) (da_cons (de_tup (da_cons (de_pv 7) (da_cons (de_ix (de_pv 9) (de_call cx F__law_take (by decide) (by rfl) (da_cons (de_pv 0) (da_cons de_int da_nil)))) da_nil))) da_nil))
 (dss_one (ds_set (i := 7) sc__law_stones.nd rfl (by first | exact Or.inl rfl | exact Or.inr rfl) (de_add (de_add (de_pv 7) de_int) (de_call cx F__law_take (by decide) (by rfl) (da_cons (de_pv 0) (da_cons (de_pv 5) da_nil)))))))))
 (dss_one (ds_ret (de_tupleC (by rfl) T.n_tuple (da_cons (de_pv 6) da_nil)))))))))
  (by
    rintro as R ex hl ⟨n, w, rfl, n0, n1, w0, w1, h⟩
    walk_at "dx"
    refine ⟨n, rfl, by omega, by omega, fun r r0 r1 => ?_⟩
    walk_at "dx"
    refine ⟨4, rfl, by decide, by decide, fun q q0 q1 => ?_⟩
    have q1 : q < 4 := q1
    walk_at "dx"
    refine ⟨by walk_at "lim", ?_⟩
    obtain ⟨t, ht, t0, t1⟩ : ∃ t : Int, atI [PyData.int 3, .int 9, .int 2, .int w] q = some (.int t) ∧ 1 ≤ t ∧ t ≤ 100000000000 := by
      rcases four_of (a := .int 3) (b := .int 9) (c := .int 2) (d := .int w) q0 q1 with e | e | e | e
      · exact ⟨3, e, by omega, by omega⟩
      · exact ⟨9, e, by omega, by omega⟩
      · exact ⟨2, e, by omega, by omega⟩
      · exact ⟨w, e, by omega, by omega⟩
    rw [ht]
    walk_at "dx"
    refine ⟨by walk_at "lim", t, rfl, by omega, by omega, fun z z0 z1 => ?_⟩
    refine ⟨rfl, by omega, by omega, by rw [rangeD_len]; omega, ?_⟩
    obtain ⟨nn, hnn⟩ : ∃ nn : Nat, (1 + r : Int) = (nn : Nat) := ⟨(1 + r).toNat, by omega⟩
    rw [hnn, Int.toNat_natCast]
    refine for_range (fun k δ => ∃ (l : SRow) (pp : Int) (a b : Option DV), δ = [some .cask, some (.d (.int n)), some (.d (.int w)), some (.d (.int (nn : Nat))), some (.d (.int q)), some (.d (.int t)), some (.own (l.map stD)), some (.d (.int pp)), a, b] ∧ l.length = k ∧ RowG l t pp ∧ 0 ≤ pp ∧ pp ≤ t + k * t) ⟨[], z, none, none, rfl, rfl, ⟨fun i j a b => by simp at b, fun i a => by simp at a, fun i a => by simp at a⟩, z0, by omega⟩ ?_ ?_
    · rintro δ ⟨l, pp, a, b, rfl, hk, hb, h0, h1⟩
      walk_at "dx"
      refine h l ⟨⟨by omega, by omega, hb.inc, fun i hi => by have := hb.b i hi; omega⟩, by omega, fun i hi => ?_⟩ (by omega)
      have h1 := hb.b i hi
      have h3 : (i : Int) * t ≤ 64 * 100000000000 := Int.mul_le_mul (by omega) t1 (by omega) (by decide)
      omega
    · rintro k δ K hk ⟨l, pp, a, b, rfl, hlk, hb, h0, h1⟩ hK
      have hsz : (l.map stD).length < sizeLine := by walk_at "lim"
      have hnt : (nn : Int) * t ≤ 64 * 100000000000 := Int.mul_le_mul (by omega) t1 (by omega) (by decide)
      have hnt0 : 0 < (nn : Int) * t := Int.mul_pos (by omega) (by omega)
      walk_at "dx"
      refine ⟨t, rfl, by omega, by omega, fun ra ra0 ra1 => ?_⟩
      walk_at "dx"
      refine ⟨.inl ⟨by decide, by decide⟩, 3 * t, rfl, by omega, by omega, fun rb rb0 rb1 => ?_⟩
      walk_at "dx"
      refine ⟨.inr ⟨by omega, by omega⟩, (nn : Int) * t, rfl, hnt0, by omega, fun rc rc0 rc1 => ?_⟩
      walk_at "dx"
      refine ⟨by walk_at "lim", 4, rfl, by decide, by decide, fun rd rd0 rd1 => ?_⟩
      have rd1 : rd < 4 := rd1
      obtain ⟨hh, hx, hh1, hh2⟩ : ∃ hh : Int, atI [PyData.int 1, .int (1 + ra), .int (1 + rb), .int (1 + rc)] rd = some (.int hh) ∧ 1 ≤ hh ∧ hh ≤ 10000000000000 := by
        rcases four_of (a := .int 1) (b := .int (1 + ra)) (c := .int (1 + rb)) (d := .int (1 + rc)) rd0 rd1 with e | e | e | e
        · exact ⟨1, e, by omega, by omega⟩
        · exact ⟨1 + ra, e, by omega, by omega⟩
        · exact ⟨1 + rb, e, by omega, by omega⟩
        · exact ⟨1 + rc, e, by omega, by omega⟩
      walk_at "dx"
      rw [hx]
      walk_at "dx"
      rw [if_pos hsz]
      refine ⟨by walk_at "lim", t, rfl, by omega, by omega, fun re re0 re1 => ?_⟩
      walk_at "dx"
      refine hK _ ⟨l ++ [(pp, hh)], pp + 1 + re, _, _, by rw [List.map_append]; rfl, by simp [hlk], hb.snoc h0 (by rw [hlk]; exact h1) (by omega) hh1 hh2, by omega, ?_⟩
      have e : ((k + 1 : Nat) : Int) * t = k * t + t := by push_cast; rw [Int.add_mul, Int.one_mul]
      rw [e]
      omega)).le (by decide +kernel)
/-- the end of a walk so far -/
structure EndW (l : SRow) (s m : Nat) (r : Int) : Prop where
  le : s ≤ m
  lt : m < l.length
  ch : ∀ j, s < j → j ≤ m → ∃ k, s ≤ k ∧ k < j ∧ pl l j ≤ pl l k + ht l k
  up : ∀ k, s ≤ k → k ≤ m → pl l k + ht l k ≤ r
  at_ : ∃ k, s ≤ k ∧ k ≤ m ∧ r = pl l k + ht l k
theorem EndW.end_ {l : SRow} {s m : Nat} {r : Int} (h : EndW l s m r) (hs : m + 1 < l.length → r < pl l (m + 1)) : IsEnd l s m := ⟨h.le, h.lt, h.ch, fun hn k h1 h2 => by
  have := h.up k h1 h2
  have := hs hn
  omega⟩
theorem EndW.init {l : SRow} {s : Nat} (h : s < l.length) : EndW l s s (pl l s + ht l s) := ⟨Nat.le_refl _, h, fun j h1 h2 => absurd h1 (by omega), fun k h1 h2 => by
  obtain rfl : k = s := by omega
  exact Int.le_refl _, s, Nat.le_refl _, Nat.le_refl _, rfl⟩
theorem EndW.step {l : SRow} {s m : Nat} {r : Int} (h : EndW l s m r) (hn : m + 1 < l.length) (hs : pl l (m + 1) ≤ r) : EndW l s (m + 1) (max r (pl l (m + 1) + ht l (m + 1))) := by
  have hle := h.le
  refine ⟨by omega, hn, fun j h1 h2 => ?_, fun k h1 h2 => ?_, ?_⟩
  · rcases Nat.lt_or_ge m j with q | q
    · obtain ⟨k, k1, k2, k3⟩ := h.at_
      have : j = m + 1 := by omega
      subst this
      exact ⟨k, k1, by omega, by omega⟩
    · exact h.ch j h1 q
  · rcases Nat.lt_or_ge m k with q | q
    · have : k = m + 1 := by omega
      subst this
      omega
    · have := h.up k h1 q
      omega
  · rcases Int.le_total r (pl l (m + 1) + ht l (m + 1)) with q | q
    · exact ⟨m + 1, by omega, by omega, by omega⟩
    · obtain ⟨k, k1, k2, k3⟩ := h.at_
      exact ⟨k, k1, by omega, by omega⟩
theorem row_at {l : SRow} {i : Nat} (hi : i < l.length) : atI (l.map stD) (i : Nat) = some (.tuple [.int (pl l i), .int (ht l i)]) := atI_map (f := stD) _ rfl (row_get hi)
def mf__law_right : MF := fun as R _ => ∃ (l : SRow) (s : Nat), as = [.d (rowD l), .d (.int (s : Nat))] ∧ Inc l ∧ s < l.length ∧ R (.d (natD (endOf l s)))
theorem d__law_right {f : Addr} {fd : FuncData} (T : Txt K mg) (hm : mg "_law_right" = some (.ref f)) (F0 : L2.Fun K "_law_right" "_law_right" s__law_right f fd) (hb : Binds K fd ["_law_row", "_law_stone"] []) : DFn P w K mg base CK "_law_right" 1 0 2 mf__law_right :=
  (dfn_of hm F0 hb sc__law_right (fun cdv A outer s H E cx =>
 (dss_cons (ds_par2 (i := 2) (j := 3) (by rfl) sc__law_right.nd rfl rfl (by decide) rfl rfl (da_cons (de_add (de_ix (de_ix (de_pv 0) (de_pv 1)) de_int) (de_ix (de_ix (de_pv 0) (de_pv 1)) de_int)) (da_cons (de_pv 1) da_nil)) (by rfl))
 (dss_cons (ds_while (Ctx.passes rfl) (DW.dt (dw_and (dt_lt (de_add (de_pv 3) de_int) (de_len (by rfl) T.n_len (da_cons (de_pv 0) da_nil))) (dw_and1 (dt_le (de_ix (de_ix (de_pv 0) (de_add (de_pv 3) de_int)) de_int) (de_pv 2))))) (dss_cons (ds_set (i := 3) sc__law_right.nd rfl (by first | exact Or.inl rfl | exact Or.inr rfl) (de_add (de_pv 3) de_int))
 (dss_one (ds_set (i := 2) sc__law_right.nd rfl (by first | exact Or.inl rfl | exact Or.inr rfl) (de_max2 (by rfl) (by rfl) T.n_max (da_cons (de_pv 2) (da_cons (de_add (de_ix (de_ix (de_pv 0) (de_pv 3)) de_int) (de_ix (de_ix (de_pv 0) (de_pv 3)) de_int)) da_nil)))))))
 (dss_one (ds_ret (de_pv 3))))))
  (by
    rintro as R ex hl ⟨l, s, rfl, I, hs, h⟩
    have hn1 := I.n1
    unfold rowD
    walk_at "dx"
    rw [row_at hs]
    walk_at "dx"
    refine ⟨fun n δ => ∃ (m : Nat) (r : Int), δ = [some (.d (.tuple (l.map stD))), some (.d (.int (s : Nat))), some (.d (.int r)), some (.d (.int (m : Nat)))] ∧ EndW l s m r ∧ n = l.length - m, ⟨_, s, _, rfl, .init hs, rfl⟩, ?_⟩
    rintro n δ ⟨m, r, rfl, E, rfl⟩
    have hm := E.lt
    walk_at "dx"
    rw [List.length_map]
    rw [show ((m : Nat) : Int) + 1 = ((m + 1 : Nat) : Int) by push_cast; rfl]
    refine ⟨fun c => ?_, fun c => ?_⟩
    · have hm1 : m + 1 < l.length := by omega
      rw [row_at hm1]
      walk_at "dx"
      refine ⟨fun c2 => ⟨l.length - (m + 1), by omega, m + 1, _, rfl, ?_, rfl⟩, fun c2 => ?_⟩
      · have := E.step hm1 c2
        have e : max r (pl l (m + 1) + ht l (m + 1)) = if pl l (m + 1) + ht l (m + 1) > r then pl l (m + 1) + ht l (m + 1) else r := by split <;> omega
        rw [e] at this
        exact this
      · rw [end_of I (E.end_ fun _ => by omega)] at h
        exact h
    · rw [end_of I (E.end_ fun z => absurd z (by omega))] at h
      exact h)).le (by decide +kernel)
structure StaW (l : SRow) (s m : Nat) (r : Int) : Prop where
  le : m ≤ s
  lt : s < l.length
  ch : ∀ j, m ≤ j → j < s → ∃ k, j < k ∧ k ≤ s ∧ pl l k - ht l k ≤ pl l j
  up : ∀ k, m ≤ k → k ≤ s → r ≤ pl l k - ht l k
  at_ : ∃ k, m ≤ k ∧ k ≤ s ∧ r = pl l k - ht l k
theorem StaW.end_ {l : SRow} {s m : Nat} {r : Int} (h : StaW l s m r) (hs : 0 < m → pl l (m - 1) < r) : IsStart l s m := ⟨h.le, h.lt, h.ch, fun hn k h1 h2 => by
  have := h.up k h1 h2
  have := hs hn
  omega⟩
theorem StaW.init {l : SRow} {s : Nat} (h : s < l.length) : StaW l s s (pl l s - ht l s) := ⟨Nat.le_refl _, h, fun j h1 h2 => absurd h1 (by omega), fun k h1 h2 => by
  obtain rfl : k = s := by omega
  exact Int.le_refl _, s, Nat.le_refl _, Nat.le_refl _, rfl⟩
theorem StaW.step {l : SRow} {s m : Nat} {r : Int} (h : StaW l s (m + 1) r) (hs : r ≤ pl l m) : StaW l s m (min r (pl l m - ht l m)) := by
  have hle := h.le
  refine ⟨by omega, h.lt, fun j h1 h2 => ?_, fun k h1 h2 => ?_, ?_⟩
  · rcases Nat.lt_or_ge m j with q | q
    · exact h.ch j (by omega) h2
    · obtain ⟨k, k1, k2, k3⟩ := h.at_
      have : j = m := by omega
      subst this
      exact ⟨k, by omega, k2, by omega⟩
  · rcases Nat.lt_or_ge m k with q | q
    · have := h.up k (by omega) h2
      omega
    · have : k = m := by omega
      subst this
      omega
  · rcases Int.le_total r (pl l m - ht l m) with q | q
    · obtain ⟨k, k1, k2, k3⟩ := h.at_
      exact ⟨k, by omega, k2, by omega⟩
    · exact ⟨m, by omega, by omega, by omega⟩
def mf__law_left : MF := fun as R _ => ∃ (l : SRow) (s : Nat), as = [.d (rowD l), .d (.int (s : Nat))] ∧ Inc l ∧ s < l.length ∧ R (.d (natD (startOf l s)))
theorem d__law_left {f : Addr} {fd : FuncData} (T : Txt K mg) (hm : mg "_law_left" = some (.ref f)) (F0 : L2.Fun K "_law_left" "_law_left" s__law_left f fd) (hb : Binds K fd ["_law_row", "_law_stone"] []) : DFn P w K mg base CK "_law_left" 1 0 2 mf__law_left :=
  (dfn_of hm F0 hb sc__law_left (fun cdv A outer s H E cx =>
 (dss_cons (ds_par2 (i := 2) (j := 3) (by rfl) sc__law_left.nd rfl rfl (by decide) rfl rfl (da_cons (de_sub (de_ix (de_ix (de_pv 0) (de_pv 1)) de_int) (de_ix (de_ix (de_pv 0) (de_pv 1)) de_int)) (da_cons (de_pv 1) da_nil)) (by rfl))
 (dss_cons (ds_while (Ctx.passes rfl) (DW.dt (dw_and (dt_gt (de_pv 3) de_int) (dw_and1 (dt_ge (de_ix (de_ix (de_pv 0) (de_sub (de_pv 3) de_int)) de_int) (de_pv 2))))) (dss_cons (ds_set (i := 3) sc__law_left.nd rfl (by first | exact Or.inl rfl | exact Or.inr rfl) (de_sub (de_pv 3) de_int))
 (dss_one (ds_set (i := 2) sc__law_left.nd rfl (by first | exact Or.inl rfl | exact Or.inr rfl) (de_min2 (by rfl) (by rfl) T.n_min (da_cons (de_pv 2) (da_cons (de_sub (de_ix (de_ix (de_pv 0) (de_pv 3)) de_int) (de_ix (de_ix (de_pv 0) (de_pv 3)) de_int)) da_nil)))))))
 (dss_one (ds_ret (de_pv 3))))))
  (by
    rintro as R ex hl ⟨l, s, rfl, I, hs, h⟩
    have hn1 := I.n1
    unfold rowD
    walk_at "dx"
    rw [row_at hs]
    walk_at "dx"
    refine ⟨fun n δ => ∃ (m : Nat) (r : Int), δ = [some (.d (.tuple (l.map stD))), some (.d (.int (s : Nat))), some (.d (.int r)), some (.d (.int (m : Nat)))] ∧ StaW l s m r ∧ n = m, ⟨_, s, _, rfl, .init hs, rfl⟩, ?_⟩
    rintro n δ ⟨m, r, rfl, E, hnm⟩
    have hm := E.le
    subst hnm
    cases n with
    | zero =>
      walk_at "dx"
      rw [start_of I (E.end_ fun z => absurd z (by omega))] at h
      exact ⟨fun c => absurd c (by omega), fun _ => h⟩
    | succ m =>
      have hml : m < l.length := by omega
      walk_at "dx"
      rw [show ((m + 1 : Nat) : Int) - 1 = (m : Nat) by push_cast; omega, row_at hml]
      walk_at "dx"
      refine ⟨fun c => ⟨fun c2 => ⟨m, by omega, m, _, rfl, ?_, rfl⟩, fun c2 => ?_⟩, fun c => absurd c (by omega)⟩
      · have := E.step c2
        have e : min r (pl l m - ht l m) = if pl l m - ht l m < r then pl l m - ht l m else r := by split <;> omega
        rw [e] at this
        exact this
      · rw [start_of I (E.end_ fun _ => by rw [Nat.add_sub_cancel]; omega)] at h
        exact h)).le (by decide +kernel)
def pushD2 (s : Nat) : List PyData := [.tuple [.int (s : Nat), .str "left"], .tuple [.int (s : Nat), .str "right"]]
def pushL (n : Nat) : List PyData := (List.range n).flatMap pushD2
theorem pushL_succ {n : Nat} : pushL (n + 1) = pushL n ++ pushD2 n := by unfold pushL; rw [List.range_succ, List.flatMap_append]; simp
theorem pushL_len : ∀ {n : Nat}, (pushL n).length = 2 * n
  | 0 => rfl
  | n + 1 => by rw [pushL_succ, List.length_append, pushL_len (n := n)]; simp [pushD2]; omega
def mf__law_pushes : MF := fun as R _ => ∃ l : SRow, as = [.d (rowD l)] ∧ l.length ≤ 1000 ∧ R (.d (.list (pushL l.length)))
theorem d__law_pushes {f : Addr} {fd : FuncData} (T : Txt K mg) (hm : mg "_law_pushes" = some (.ref f)) (F0 : L2.Fun K "_law_pushes" "_law_pushes" s__law_pushes f fd) (hb : Binds K fd ["_law_row"] []) : DFn P w K mg base CK "_law_pushes" 1 0 1 mf__law_pushes :=
  (dfn_of hm F0 hb sc__law_pushes (fun cdv A outer s H E cx =>
 (dss_cons (ds_set (i := 1) sc__law_pushes.nd rfl (by first | exact Or.inl rfl | exact Or.inr rfl) (de_lst da_nil))
 (dss_cons (ds_for (Ctx.passes rfl) (by rfl) (di_range1 (by rfl) T.n_range (da_cons (de_len (by rfl) T.n_len (da_cons (de_pv 0) da_nil)) da_nil)) (dg_name (i := 2) sc__law_pushes.nd rfl (by first | exact Or.inl rfl | exact Or.inr rfl)) (dss_one (ds_mut PySem.F.slot_list_extend PySem.F.type_list_extend mt_extend mut_ext (pv 1) (da_cons (de_lst (da_cons (de_tup (da_cons (de_pv 2) (da_cons de_str da_nil))) (da_cons (de_tup (da_cons (de_pv 2) (da_cons de_str da_nil))) da_nil))) da_nil))))
 (dss_one (ds_ret (de_pv 1))))))
  (by
    rintro as R ex hl ⟨l, rfl, hn, h⟩
    have hlen : oLen (.d (rowD l)) = fun R => R (.d (.int l.length)) := by
      unfold rowD
      funext R
      walk_at "dx"
      rw [List.length_map]
    walk_at "dx"
    rw [hlen]
    walk_at "dx"
    refine ⟨by walk_at "lim", by omega, by omega, ?_⟩
    refine for_range (fun k δ => ∃ a2 : Option DV, δ = [some (.d (rowD l)), some (.own (pushL k)), a2]) ⟨none, rfl⟩ ?_ ?_
    · rintro δ ⟨a2, rfl⟩
      walk_at "dx"
      exact h
    · rintro s δ K hs ⟨a2, rfl⟩ hK
      have hs : s < l.length := by omega
      walk_at "dx"
      rw [if_pos (show (pushL s).length + 2 ≤ sizeLine from by rw [pushL_len]; walk_at "lim")]
      exact ⟨by walk_at "lim", by walk_at "lim", by walk_at "lim", hK _ ⟨_, by rw [pushL_succ]; rfl⟩⟩)).le (by decide +kernel)
noncomputable def endsD (l : SRow) (s : Nat) : List PyData := [.list [.int (startOf l s : Nat), .int (s : Nat)], .list [.int (s : Nat), .int (endOf l s : Nat)]]
noncomputable def endsL (l : SRow) (n : Nat) : List PyData := (List.range n).flatMap (endsD l)
theorem endsL_succ {l : SRow} {n : Nat} : endsL l (n + 1) = endsL l n ++ endsD l n := by unfold endsL; rw [List.range_succ, List.flatMap_append]; simp
theorem endsL_len {l : SRow} : ∀ {n : Nat}, (endsL l n).length = 2 * n
  | 0 => rfl
  | n + 1 => by rw [endsL_succ, List.length_append, endsL_len (n := n)]; simp [endsD]; omega
def spD2 (q : Nat × Nat) : PyData := .list [.int (q.1 : Nat), .int (q.2 : Nat)]
theorem endsL_map {l : SRow} {n : Nat} : endsL l n = ((List.range n).flatMap fun s => [(startOf l s, s), (s, endOf l s)]).map spD2 := by
  unfold endsL
  rw [List.map_flatMap]
  rfl
def mf__law_ends : MF := fun as R _ => ∃ l : SRow, as = [.d (rowD l)] ∧ Inc l ∧ l.length ≤ 1000 ∧ R (.d (.list (endsL l l.length)))
theorem d__law_ends {f : Addr} {fd : FuncData} (T : Txt K mg) (hm : mg "_law_ends" = some (.ref f)) (F0 : L2.Fun K "_law_ends" "_law_ends" s__law_ends f fd) (hb : Binds K fd ["_law_row"] []) (F__law_left : DFn P w K mg base CK "_law_left" 1 0 2 mf__law_left) (F__law_right : DFn P w K mg base CK "_law_right" 1 0 2 mf__law_right) : DFn P w K mg base CK "_law_ends" 2 0 1 mf__law_ends :=
  (dfn_of hm F0 hb sc__law_ends (fun cdv A outer s H E cx =>
 (dss_cons (ds_set (i := 1) sc__law_ends.nd rfl (by first | exact Or.inl rfl | exact Or.inr rfl) (de_lst da_nil))
 (dss_cons (ds_for (Ctx.passes rfl) (by rfl) (di_range1 (by rfl) T.n_range (da_cons (de_len (by rfl) T.n_len (da_cons (de_pv 0) da_nil)) da_nil)) (dg_name (i := 2) sc__law_ends.nd rfl (by first | exact Or.inl rfl | exact Or.inr rfl)) (dss_one (ds_mut PySem.F.slot_list_extend PySem.F.type_list_extend mt_extend mut_ext (pv 1) (da_cons (de_lst (da_cons (de_lst (da_cons (de_call cx F__law_left (by decide) (by rfl) (da_cons (de_pv 0) (da_cons (de_pv 2) da_nil))) (da_cons (de_pv 2) da_nil))) (da_cons (de_lst (da_cons (de_pv 2) (da_cons (de_call cx F__law_right (by decide) (by rfl) (da_cons (de_pv 0) (da_cons (de_pv 2) da_nil))) da_nil))) da_nil))) da_nil))))
 (dss_one (ds_ret (de_pv 1))))))
  (by
    rintro as R ex hl ⟨l, rfl, I, hn, h⟩
    have hlen : oLen (.d (rowD l)) = fun R => R (.d (.int l.length)) := by
      unfold rowD
      funext R
      walk_at "dx"
      rw [List.length_map]
    walk_at "dx"
    rw [hlen]
    walk_at "dx"
    refine ⟨by walk_at "lim", by walk_at "lim", by walk_at "lim", ?_⟩
    refine for_range (fun k δ => ∃ a2 : Option DV, δ = [some (.d (rowD l)), some (.own (endsL l k)), a2]) ⟨none, rfl⟩ ?_ ?_
    · rintro δ ⟨a2, rfl⟩
      walk_at "dx"
      exact h
    · rintro s δ K hs ⟨a2, rfl⟩ hK
      have hs : s < l.length := by omega
      walk_at "dx"
      refine ⟨l, s, rfl, I, hs, ?_⟩
      walk_at "dx"
      refine ⟨by walk_at "lim", l, s, rfl, I, hs, ?_⟩
      walk_at "dx"
      rw [if_pos (show (endsL l s).length + 2 ≤ sizeLine from by rw [endsL_len]; walk_at "lim")]
      exact ⟨by walk_at "lim", by walk_at "lim", hK _ ⟨_, by rw [endsL_succ]; rfl⟩⟩)).le (by decide +kernel)
/-- where a push stands among all -/
def posOf (p : Nat × Bool) : Nat := 2 * p.1 + if p.2 then 1 else 0
theorem pushL_get {n : Nat} {p : Nat × Bool} : p.1 < n → (pushL n)[posOf p]? = some (pushOf p) := by
  induction n with
  | zero => intro h; omega
  | succ n ih =>
    intro h
    rw [pushL_succ]
    rcases Nat.lt_or_ge p.1 n with c | c
    · have := ih c
      rw [List.getElem?_append_left (List.getElem?_eq_some_iff.mp this).1]
      exact this
    · have : p.1 = n := by omega
      rw [List.getElem?_append_right (by rw [pushL_len]; unfold posOf; omega), pushL_len]
      obtain ⟨s, b⟩ := p
      cases this
      unfold posOf
      cases b
      · rw [show 2 * s + (if false = true then 1 else 0) - 2 * s = 0 by simp]; rfl
      · rw [show 2 * s + (if true = true then 1 else 0) - 2 * s = 1 by simp]; rfl
theorem endsL_get {l : SRow} {n : Nat} {p : Nat × Bool} : p.1 < n → (endsL l n)[posOf p]? = some (.list [.int ((spanOf l p).1 : Nat), .int ((spanOf l p).2 : Nat)]) := by
  induction n with
  | zero => intro h; omega
  | succ n ih =>
    intro h
    rw [endsL_succ]
    rcases Nat.lt_or_ge p.1 n with c | c
    · have := ih c
      rw [List.getElem?_append_left (List.getElem?_eq_some_iff.mp this).1]
      exact this
    · have : p.1 = n := by omega
      rw [List.getElem?_append_right (by rw [endsL_len]; unfold posOf; omega), endsL_len]
      obtain ⟨s, b⟩ := p
      cases this
      unfold posOf
      cases b
      · rw [show 2 * s + (if false = true then 1 else 0) - 2 * s = 0 by simp]; rfl
      · rw [show 2 * s + (if true = true then 1 else 0) - 2 * s = 1 by simp]; rfl
theorem pushL_at {n i : Nat} {d : PyData} (h : (pushL n)[i]? = some d) : ∃ p : Nat × Bool, p.1 < n ∧ posOf p = i ∧ d = pushOf p := by
  have hi := (List.getElem?_eq_some_iff.mp h).1
  rw [pushL_len] at hi
  refine ⟨(i / 2, decide (i % 2 = 1)), by show i / 2 < n; omega, ?_, ?_⟩
  · unfold posOf
    by_cases c : i % 2 = 1
    · simp only [c, decide_true, if_true]; omega
    · simp only [c, decide_false, Bool.false_eq_true, if_false]; omega
  · have h2 := pushL_get (n := n) (p := (i / 2, decide (i % 2 = 1))) (by show i / 2 < n; omega)
    have e : posOf (i / 2, decide (i % 2 = 1)) = i := by
      unfold posOf
      by_cases c : i % 2 = 1
      · simp only [c, decide_true, if_true]; omega
      · simp only [c, decide_false, Bool.false_eq_true, if_false]; omega
    rw [e, h] at h2
    exact Option.some.inj h2
theorem pos_inj {p q : Nat × Bool} (h : posOf p = posOf q) : p = q := by
  obtain ⟨a, b⟩ := p
  obtain ⟨c, d⟩ := q
  unfold posOf at h
  cases b <;> cases d <;> simp at h ⊢ <;> omega
theorem side_inj {b d : Bool} (h : PyData.eqv (.str (sideOf b)) (.str (sideOf d)) = true) : b = d := by
  cases b <;> cases d <;> first | rfl | exact absurd h (by decide +kernel)
theorem push_eqv {p q : Nat × Bool} : PyData.eqv (pushOf p) (pushOf q) = decide (p = q) := by
  obtain ⟨a, b⟩ := p
  obtain ⟨c, d⟩ := q
  by_cases e : a = c
  · subst e
    by_cases e2 : b = d
    · subst e2
      rw [decide_eq_true rfl]
      show PyData.eqv (.tuple [.int (a : Nat), .str (sideOf b)]) _ = true
      simp [pushOf, PyData.eqv, PyData.eqvAll]
    · rw [decide_eq_false (by simp [e2])]
      cases h : PyData.eqv (pushOf (a, b)) (pushOf (a, d)) with
      | false => rfl
      | true =>
        simp only [pushOf, PyData.eqv, PyData.eqvAll, Bool.and_eq_true, Bool.and_true] at h
        exact absurd (side_inj (by simpa [PyData.eqv] using h.2)) e2
  · rw [decide_eq_false (by simp [e])]
    simp only [pushOf, PyData.eqv, PyData.eqvAll]
    rw [show (((a : Nat) : Int) == ((c : Nat) : Int)) = false by rw [beq_eq_false_iff_ne]; omega, Bool.false_and]
theorem shp_str (b : Bool) (n : Nat) : Shp (.str (sideOf b)) n := by
  cases b
  · exact ⟨by decide +kernel, by simp [PyData.depth]⟩
  · exact ⟨by decide +kernel, by simp [PyData.depth]⟩
theorem shp_push (p : Nat × Bool) : Shp (pushOf p) 1 := shp_tup fun x hx => by
  simp only [List.mem_cons, List.not_mem_nil, or_false] at hx
  rcases hx with rfl | rfl
  · exact shp_int _ _
  · exact shp_str _ _
theorem shp_pushL (n : Nat) : Shp (.list (pushL n)) 2 := shp_lst fun x hx => by
  obtain ⟨i, hi⟩ := List.mem_iff_getElem?.mp hx
  obtain ⟨p, _, _, rfl⟩ := pushL_at hi
  exact shp_push p
theorem pushL_index {n : Nat} {p : Nat × Bool} (h : p.1 < n) : ∀ m z, m < posOf p → (pushL n)[m]? = some z → PyData.eqv z (pushOf p) = false := fun m z hm hz => by
  obtain ⟨q, _, q2, rfl⟩ := pushL_at hz
  rw [push_eqv]
  exact decide_eq_false fun e => by rw [e] at q2; omega
def onCov (i : Nat) : PyData → Option PyData
  | .list [.int a, .int b] => if decide (a ≤ (i : Nat)) && decide ((i : Nat) ≤ b) then some (.int a) else none
  | _ => none
theorem cov_lc (P : List (Nat × Nat)) (i : Nat) : (P.map spD2).filterMap (onCov i) = ((P.filter fun q => decide (q.1 ≤ i) && decide (i ≤ q.2)).map (·.1)).map natD := by
  induction P with
  | nil => rfl
  | cons q P ih =>
    simp only [List.map_cons, List.filterMap_cons, List.filter_cons, spD2, onCov, Int.ofNat_le] at ih ⊢
    split
    · rename_i h
      split at h
      · cases h
      · rename_i hc
        rw [if_neg hc]; exact ih
    · rename_i h
      split at h
      · rename_i hc
        cases h
        rw [if_pos hc, List.map_cons, List.map_cons, ih]; rfl
      · cases h
theorem cov_nil {P : List (Nat × Nat)} {i : Nat} : covB P i = false ↔ (P.filter fun q => decide (q.1 ≤ i) && decide (i ≤ q.2)) = [] := by
  unfold covB
  rw [List.filter_eq_nil_iff, List.any_eq_false]
def mf__law_felled : MF := fun as R _ => ∃ (l : SRow) (ps : List (Nat × Bool)), as = [.d (rowD l), .d (.tuple (ps.map pushOf))] ∧ Inc l ∧ l.length ≤ 1000 ∧ ps.length ≤ 1000 ∧ (∀ p ∈ ps, p.1 < l.length) ∧ R (.d (.list (((List.range l.length).filter (covB (spansP l ps))).map natD)))
theorem d__law_felled {f : Addr} {fd : FuncData} (T : Txt K mg) (hm : mg "_law_felled" = some (.ref f)) (F0 : L2.Fun K "_law_felled" "_law_felled" s__law_felled f fd) (hb : Binds K fd ["_law_row", "_law_cover"] []) (F__law_pushes : DFn P w K mg base CK "_law_pushes" 1 0 1 mf__law_pushes) (F__law_ends : DFn P w K mg base CK "_law_ends" 2 0 1 mf__law_ends) : DFn P w K mg base CK "_law_felled" 3 0 2 mf__law_felled :=
  (dfn_of hm F0 hb sc__law_felled (fun cdv A outer s H E cx =>
 (dss_cons (ds_tup3 (i := 2) (j := 3) (l := 4) (by rfl) sc__law_felled.nd rfl rfl rfl (by decide) (by decide) (by decide) (by first | exact Or.inl rfl | exact Or.inr rfl) (by first | exact Or.inl rfl | exact Or.inr rfl) (by first | exact Or.inl rfl | exact Or.inr rfl) (da_cons (de_call cx F__law_pushes (by decide) (by rfl) (da_cons (de_pv 0) da_nil)) (da_cons (de_call cx F__law_ends (by decide) (by rfl) (da_cons (de_pv 0) da_nil)) (da_cons (de_lst da_nil) da_nil))))
 (dss_cons (ds_setLc (i := 5) (own := [("_law_push", 6)]) (dom := [6]) (by rfl) sc__law_felled.nd rfl rfl (sw_true rfl rfl rfl (by decide +kernel)) (di_tup (de_pv 1)) (blkOk_by (by kernel_rfl)) (by decide) (fun _ _ _ _ _ => (dg_name (i := 6) sc__law_felled.nd rfl (by first | exact Or.inl rfl | exact Or.inr rfl))) (fun _ _ _ _ _ => dts_nil) (fun _ _ _ _ _ => (de_ix (de_pv 3) (de_index cx.blk.u (de_pv 2) (da_cons (de_pv 6) da_nil)))))
 (dss_cons (ds_for (Ctx.passes rfl) (by rfl) (di_range1 (by rfl) T.n_range (da_cons (de_len (by rfl) T.n_len (da_cons (de_pv 0) da_nil)) da_nil)) (dg_name (i := 7) sc__law_felled.nd rfl (by first | exact Or.inl rfl | exact Or.inr rfl)) (dss_one (ds_if (dt_ne cx.u (de_lc (own := [("_law_low", 8), ("_law_high", 9)]) (dom := [8, 9]) (by rfl) sc__law_felled.nd (di_list (de_pv 5)) (blkOk_by (by kernel_rfl)) (by decide) (fun _ _ _ _ _ => (dg_lst (by rfl) (dgs_cons (dg_name (i := 8) sc__law_felled.nd rfl (by first | exact Or.inl rfl | exact Or.inr rfl)) (dgs_cons (dg_name (i := 9) sc__law_felled.nd rfl (by first | exact Or.inl rfl | exact Or.inr rfl)) dgs_nil)))) (fun _ _ _ _ _ => (dts_one (dt_ch op_le op_le (de_pv 8) (de_pv 7) (de_pv 9)))) (fun _ _ _ _ _ => (de_pv 8))) (de_lst da_nil)) (dss_one (ds_mut PySem.F.slot_list_append PySem.F.type_list_append mt_append mut_app (pv 4) (da_cons (de_pv 7) da_nil))) dss_nil)))
 (dss_one (ds_ret (de_pv 4)))))))
  (by
    rintro as R ex hl ⟨l, ps, rfl, I, hn, hpl, hps, h⟩
    have hlen : oLen (.d (rowD l)) = fun R => R (.d (.int l.length)) := by
      unfold rowD
      funext R
      walk_at "dx"
      rw [List.length_map]
    walk_at "dx"
    refine ⟨l, rfl, hn, l, rfl, I, hn, ?_⟩
    refine ⟨by walk_at "lim", rfl, rfl, ?_⟩
    refine lc_ind (fun d => match d with
      | .tuple [.int a, .str x] => some (spD2 (spanOf l (a.toNat, decide (x = "right"))))
      | _ => none) _ _ (fun d hd K1 K0 q1 q0 => ?_) (by rw [List.length_map]; walk_at "lim") ?_
    · obtain ⟨p, hp, rfl⟩ := List.mem_map.mp hd
      have hpn := hps p hp
      have hq : (match pushOf p with
        | .tuple [.int a, .str x] => some (spD2 (spanOf l (a.toNat, decide (x = "right"))))
        | _ => none) = some (spD2 (spanOf l p)) := by
        show some (spD2 (spanOf l (Int.toNat (p.1 : Nat), decide (sideOf p.2 = "right")))) = _
        rw [Int.toNat_natCast, show decide (sideOf p.2 = "right") = p.2 by cases p.2 <;> decide +kernel]
      walk_at "dx"
      refine ⟨rfl, (shp_pushL _).shaped, (shp_push p).shaped, posOf p, _, pushL_get hpn, by rw [push_eqv]; exact decide_eq_true rfl, pushL_index hpn, ?_⟩
      rw [atI_nat (endsL_get hpn)]
      exact q1 _ hq
    · rw [show (ps.map pushOf).filterMap (fun d => match d with
        | .tuple [.int a, .str x] => some (spD2 (spanOf l (a.toNat, decide (x = "right"))))
        | _ => none) = (spansP l ps).map spD2 by
        unfold spansP
        rw [List.filterMap_map, List.map_map, ← List.filterMap_eq_map]
        refine fm_congr fun p _ => ?_
        show some (spD2 (spanOf l (Int.toNat (p.1 : Nat), decide (sideOf p.2 = "right")))) = _
        rw [Int.toNat_natCast, show decide (sideOf p.2 = "right") = p.2 by cases p.2 <;> decide +kernel]
        rfl, List.nil_append]
      refine ⟨rfl, ?_⟩
      rw [hlen]
      walk_at "dx"
      refine ⟨by omega, by omega, ?_⟩
      refine for_range (fun k δ => ∃ (a6 a7 a8 a9 : Option DV), δ = [some (.d (rowD l)), some (.d (.tuple (ps.map pushOf))), some (.d (.list (pushL l.length))), some (.d (.list (endsL l l.length))), some (.own (((List.range k).filter (covB (spansP l ps))).map natD)), some (.own ((spansP l ps).map spD2)), a6, a7, a8, a9]) ⟨_, _, _, _, rfl⟩ ?_ ?_
      · rintro δ ⟨a6, a7, a8, a9, rfl⟩
        walk_at "dx"
        exact h
      · rintro k δ K hk ⟨a6, a7, a8, a9, rfl⟩ hK
        walk_at "dx"
        refine lc_ind (onCov k) _ _ (fun d hd K1 K0 q1 q0 => ?_) (by unfold spansP; rw [List.length_map, List.length_map]; simp only [List.length_nil]; walk_at "lim") ?_
        · obtain ⟨q, hq, rfl⟩ := List.mem_map.mp hd
          unfold spD2 at q1 q0 ⊢
          walk_at "dx"
          refine ⟨fun c1 => ⟨fun c2 => q1 _ ?_, fun c2 => q0 ?_⟩, fun c1 => q0 ?_⟩
          · show (if _ then _ else _) = _
            rw [decide_eq_true c1, decide_eq_true c2]; rfl
          · show (if _ then _ else _) = _
            rw [decide_eq_false c2, Bool.and_false]; rfl
          · show (if _ then _ else _) = _
            rw [decide_eq_false c1, Bool.false_and]; rfl
        · rw [cov_lc, List.nil_append]
          have hsz : (List.map natD (List.filter (covB (spansP l ps)) (List.range k))).length < sizeLine := by
            rw [List.length_map]
            have := List.length_filter_le (covB (spansP l ps)) (List.range k)
            rw [List.length_range] at this
            walk_at "lim"
          have hst : (List.range (k + 1)).filter (covB (spansP l ps)) = (List.range k).filter (covB (spansP l ps)) ++ if covB (spansP l ps) k then [k] else [] := by
            rw [List.range_succ, List.filter_append]
            cases h : covB (spansP l ps) k <;> simp [h]
          rw [if_pos hsz]
          walk_at "dx"
          refine ⟨by walk_at "lim", shaped_nats _, ?_⟩
          cases hc : covB (spansP l ps) k with
          | false =>
            rw [hc] at hst
            rw [cov_nil.mp hc]
            rw [show PyData.eqv (.list ((([] : List (Nat × Nat)).map (·.1)).map natD)) (.list []) = true by decide +kernel]
            refine ⟨fun z => (by cases z), fun _ => hK _ ⟨_, _, _, _, by rw [hst, if_neg (by decide), List.append_nil]⟩⟩
          | true =>
            rw [hc] at hst
            have hne : ((spansP l ps).filter fun q => decide (q.1 ≤ k) && decide (k ≤ q.2)) ≠ [] := fun z => by rw [cov_nil.mpr z] at hc; cases hc
            rw [show PyData.eqv (.list ((((spansP l ps).filter fun q => decide (q.1 ≤ k) && decide (k ≤ q.2)).map (·.1)).map natD)) (.list []) = false by
              cases q : ((spansP l ps).filter fun q => decide (q.1 ≤ k) && decide (k ≤ q.2)) with
              | nil => exact absurd q hne
              | cons _ _ => simp [PyData.eqv, PyData.eqvAll]]
            refine ⟨fun _ => hK _ ⟨_, _, _, _, by rw [hst, List.map_append]; rfl⟩, fun z => (by cases z)⟩)).le (by decide +kernel)
/-- what can be asked for sameness with itself, of depth below n -/
def Alk : Nat → PyData → Prop
  | 0, _ => False
  | n + 1, .list xs => xs.length ≤ 1000 ∧ ∀ x ∈ xs, Alk n x
  | n + 1, .tuple xs => xs.length ≤ 1000 ∧ ∀ x ∈ xs, Alk n x
  | n + 1, .dict xs => xs = []
  | n + 1, _ => True
theorem alk_succ : ∀ (n : Nat) (x : PyData), Alk n x → Alk (n + 1) x
  | 0, _, h => h.elim
  | n + 1, .list xs, h => ⟨h.1, fun x hx => alk_succ n x (h.2 x hx)⟩
  | n + 1, .tuple xs, h => ⟨h.1, fun x hx => alk_succ n x (h.2 x hx)⟩
  | n + 1, .dict xs, h => h
  | n + 1, .none, _ => trivial
  | n + 1, .bool _, _ => trivial
  | n + 1, .int _, _ => trivial
  | n + 1, .str _, _ => trivial
theorem alk_mono {n m : Nat} {x : PyData} (h : n ≤ m) (hx : Alk n x) : Alk m x := by
  induction h with
  | refl => exact hx
  | step _ ih => exact alk_succ _ _ ih
def mf__law_same : Nat → MF := fun fu as R _ => ∃ x : PyData, as = [.d x, .d x] ∧ Alk fu x ∧ R (.d (.bool true))
theorem z__law_same : ∀ as R ex, ¬ (mf__law_same 0 as R ex) := fun as R ex h => by
  obtain ⟨x, _, h, _⟩ := h
  exact h
theorem eqk_b {b : Bool} {R : DV → Prop} (h : R (.d (.bool true))) : oEqK (.d (.bool b)) (.d (.bool b)) R := .inr (by
  walk_at "dx"
  rw [decide_eq_true trivial]
  exact h)
theorem eqk_i {b : Int} {R : DV → Prop} (h : R (.d (.bool true))) : oEqK (.d (.int b)) (.d (.int b)) R := .inr (by
  walk_at "dx"
  rw [decide_eq_true trivial]
  exact h)
theorem eqk_s {b : Str} {R : DV → Prop} (h : R (.d (.bool true))) : oEqK (.d (.str b)) (.d (.str b)) R := .inr (by
  walk_at "dx"
  rw [eqv_same]
  exact h)
theorem eqk_n {R : DV → Prop} (h : R (.d (.bool true))) : oEqK (.d .none) (.d .none) R := .inr (by
  walk_at "dx"
  exact h)
theorem st__law_same (fu : Nat) {f : Addr} {fd : FuncData} (T : Txt K mg) (hm : mg "_law_same" = some (.ref f)) (F0 : L2.Fun K "_law_same" "_law_same" s__law_same f fd) (hb : Binds K fd ["_law_one", "_law_other"] []) (F__law_same : DFn P w K mg base CK "_law_same" (2 + fu) 0 2 (mf__law_same fu)) : DFn P w K mg base CK "_law_same" (2 + fu + 1) 0 2 (mf__law_same (fu + 1)) :=
  (dfn_of hm F0 hb sc__law_same (fun cdv A outer s H E cx =>
 (dss_cons (ds_if (DW.dt (dw_and (dt_val (de_isi2 (T1 := "list") (T2 := "tuple") (by decide) (by decide) (by rfl) T.n_isinstance (de_pv 0) (by rfl) T.n_list (by decide +kernel) (by rfl) T.n_tuple (by decide +kernel))) (dw_and1 (dt_val (de_isi2 (T1 := "list") (T2 := "tuple") (by decide) (by decide) (by rfl) T.n_isinstance (de_pv 1) (by rfl) T.n_list (by decide +kernel) (by rfl) T.n_tuple (by decide +kernel)))))) (dss_cons (ds_if (DW.dt (dw_or (dt_ne cx.u (de_isi (by rfl) T.n_isinstance (da_cons (de_pv 0) (da_cons (de_ty (T := "list") (by rfl) T.n_list (by decide +kernel)) da_nil))) (de_isi (by rfl) T.n_isinstance (da_cons (de_pv 1) (da_cons (de_ty (T := "list") (by rfl) T.n_list (by decide +kernel)) da_nil)))) (dw_or1 (dt_ne cx.u (de_len (by rfl) T.n_len (da_cons (de_pv 0) da_nil)) (de_len (by rfl) T.n_len (da_cons (de_pv 1) da_nil)))))) (dss_one (ds_ret de_bl)) dss_nil)
 (dss_one (ds_ret (de_eq cx.u (de_lc (own := [("_law_k", 2)]) (dom := [2]) (by rfl) sc__law_same.nd (di_range1 (by rfl) T.n_range (da_cons (de_len (by rfl) T.n_len (da_cons (de_pv 0) da_nil)) da_nil)) (blkOk_by (by kernel_rfl)) (by decide) (fun _ _ _ _ _ => (dg_name (i := 2) sc__law_same.nd rfl (by first | exact Or.inl rfl | exact Or.inr rfl))) (fun _ _ _ _ _ => (dts_one (dt_not (dt_val (de_call cx.blk F__law_same (by first | decide | omega) (by rfl) (da_cons (de_ix (de_pv 0) (de_pv 2)) (da_cons (de_ix (de_pv 1) (de_pv 2)) da_nil))))))) (fun _ _ _ _ _ => (de_pv 2))) (de_lst da_nil))))) dss_nil)
 (dss_cons (ds_if (DW.dt (dw_or (dt_ne cx.u (de_isi (by rfl) T.n_isinstance (da_cons (de_pv 0) (da_cons (de_ty (T := "bool") (by rfl) T.n_bool (by decide +kernel)) da_nil))) (de_isi (by rfl) T.n_isinstance (da_cons (de_pv 1) (da_cons (de_ty (T := "bool") (by rfl) T.n_bool (by decide +kernel)) da_nil)))) (dw_or1 (dt_ne cx.u (de_isi (by rfl) T.n_isinstance (da_cons (de_pv 0) (da_cons (de_ty (T := "int") (by rfl) T.n_int (by decide +kernel)) da_nil))) (de_isi (by rfl) T.n_isinstance (da_cons (de_pv 1) (da_cons (de_ty (T := "int") (by rfl) T.n_int (by decide +kernel)) da_nil))))))) (dss_one (ds_ret de_bl)) dss_nil)
 (dss_one (ds_ret (de_and (de_eqK cx.u (de_isi (by rfl) T.n_isinstance (da_cons (de_pv 0) (da_cons (de_ty (T := "str") (by rfl) T.n_str (by decide +kernel)) da_nil))) (de_isi (by rfl) T.n_isinstance (da_cons (de_pv 1) (da_cons (de_ty (T := "str") (by rfl) T.n_str (by decide +kernel)) da_nil)))) (de_and (de_eqK cx.u (de_is (de_pv 0) de_non) (de_is (de_pv 1) de_non)) (de_one (de_eqK cx.u (de_pv 0) (de_pv 1))))))))))
  (by
    rintro as R ex hl ⟨x, rfl, hx, h⟩
    have t1 : "list" ∈ tys := by decide
    have t2 : "bool" ∈ tys := by decide
    have t3 : "int" ∈ tys := by decide
    have t4 : "str" ∈ tys := by decide
    cases x with
    | none =>
      walk_at "dx"
      rw [show (isTy (.none) "list" || isTy (.none) "tuple") = false from rfl]
      refine ⟨fun c => (by cases c), fun _ => ⟨t2, t2, fun c => absurd trivial c, t3, t3, fun c => absurd trivial c, t4, t4, ?_⟩⟩
      refine eqk_b ?_
      walk_at "dx"
      cases isTy (.none) "str" <;> (refine eqk_b ?_; walk_at "dx"; exact eqk_n h)
    | bool b =>
      walk_at "dx"
      rw [show (isTy (.bool b) "list" || isTy (.bool b) "tuple") = false from rfl]
      refine ⟨fun c => (by cases c), fun _ => ⟨t2, t2, fun c => absurd trivial c, t3, t3, fun c => absurd trivial c, t4, t4, ?_⟩⟩
      refine eqk_b ?_
      walk_at "dx"
      cases isTy (.bool b) "str" <;> (refine eqk_b ?_; walk_at "dx"; exact eqk_b h)
    | int i =>
      walk_at "dx"
      rw [show (isTy (.int i) "list" || isTy (.int i) "tuple") = false from rfl]
      refine ⟨fun c => (by cases c), fun _ => ⟨t2, t2, fun c => absurd trivial c, t3, t3, fun c => absurd trivial c, t4, t4, ?_⟩⟩
      refine eqk_b ?_
      walk_at "dx"
      cases isTy (.int i) "str" <;> (refine eqk_b ?_; walk_at "dx"; exact eqk_i h)
    | str x =>
      walk_at "dx"
      rw [show (isTy (.str x) "list" || isTy (.str x) "tuple") = false from rfl]
      refine ⟨fun c => (by cases c), fun _ => ⟨t2, t2, fun c => absurd trivial c, t3, t3, fun c => absurd trivial c, t4, t4, ?_⟩⟩
      refine eqk_b ?_
      walk_at "dx"
      cases isTy (.str x) "str" <;> (refine eqk_b ?_; walk_at "dx"; exact eqk_s h)
    | list xs =>
      walk_at "dx"
      rw [show (isTy (.list xs) "list" || isTy (.list xs) "tuple") = true from rfl]
      refine ⟨fun _ => ⟨fun _ => ⟨t1, t1, fun c => absurd trivial c, fun c => absurd trivial c, by have := hx.1; omega, by have := hx.1; omega, ?_⟩, fun c => (by cases c)⟩, fun c => (by cases c)⟩
      refine lc_ind (fun _ => none) _ _ (fun d hd K1 K0 q1 q0 => ?_) (by rw [rangeD_len]; have := hx.1; simp only [List.length_nil]; walk_at "lim") ?_
      · obtain ⟨i, hi, rfl⟩ := List.mem_map.mp hd
        have hi := List.mem_range.mp hi
        walk_at "dx"
        rw [atI_nat (List.getElem?_eq_getElem hi)]
        walk_at "dx"
        refine ⟨_, rfl, hx.2 _ (List.getElem_mem hi), ?_⟩
        walk_at "dx"
        exact q0 rfl
      · rw [show (rangeD 0 xs.length).filterMap (fun _ => (none : Option PyData)) = [] by simp]
        walk_at "dx"
        rw [show PyData.eqv (.list []) (.list []) = true by decide +kernel]; exact ⟨by walk_at "lim", h⟩
    | tuple xs =>
      walk_at "dx"
      rw [show (isTy (.tuple xs) "list" || isTy (.tuple xs) "tuple") = true from rfl]
      refine ⟨fun _ => ⟨fun _ => ⟨t1, t1, fun c => absurd trivial c, fun c => absurd trivial c, by have := hx.1; omega, by have := hx.1; omega, ?_⟩, fun c => (by cases c)⟩, fun c => (by cases c)⟩
      refine lc_ind (fun _ => none) _ _ (fun d hd K1 K0 q1 q0 => ?_) (by rw [rangeD_len]; have := hx.1; simp only [List.length_nil]; walk_at "lim") ?_
      · obtain ⟨i, hi, rfl⟩ := List.mem_map.mp hd
        have hi := List.mem_range.mp hi
        walk_at "dx"
        rw [atI_nat (List.getElem?_eq_getElem hi)]
        walk_at "dx"
        refine ⟨_, rfl, hx.2 _ (List.getElem_mem hi), ?_⟩
        walk_at "dx"
        exact q0 rfl
      · rw [show (rangeD 0 xs.length).filterMap (fun _ => (none : Option PyData)) = [] by simp]
        walk_at "dx"
        rw [show PyData.eqv (.list []) (.list []) = true by decide +kernel]; exact ⟨by walk_at "lim", h⟩
    | dict xs =>
      cases (show xs = [] from hx)
      walk_at "dx"
      rw [show (isTy (.dict []) "list" || isTy (.dict []) "tuple") = false from rfl]
      refine ⟨fun c => (by cases c), fun _ => ⟨t2, t2, fun c => absurd trivial c, t3, t3, fun c => absurd trivial c, t4, t4, ?_⟩⟩
      refine eqk_b ?_
      walk_at "dx"
      simp only [oIsN]
      refine eqk_b ?_
      walk_at "dx"
      exact .inl ⟨rfl, rfl, h⟩)).le (by decide +kernel)
theorem d__law_same {f : Addr} {fd : FuncData} (T : Txt K mg) (hm : mg "_law_same" = some (.ref f)) (F0 : L2.Fun K "_law_same" "_law_same" s__law_same f fd) (hb : Binds K fd ["_law_one", "_law_other"] []) : DFn P w K mg base CK "_law_same" (6) 0 2 (mf__law_same 4) := by
  have all : ∀ fu : Nat, DFn P w K mg base CK "_law_same" (2 + fu) 0 2 (mf__law_same fu) := fun fu => by
    induction fu with
    | zero => exact DFn.void (ps := ["_law_one", "_law_other"]) hm F0 hb z__law_same
    | succ fu ih => exact st__law_same fu T hm F0 hb ih
  exact all 4
def onBest (prev : Nat → Nat) (j : Nat) : PyData → Option PyData
  | .list [.int a, .int b] => if decide (a ≤ (j : Nat)) && decide ((j : Nat) ≤ b) then some (natD (prev a.toNat + (j + 1 - a.toNat))) else none
  | _ => none
theorem best_lc (S : List (Nat × Nat)) (prev : Nat → Nat) (j : Nat) : (S.map spD2).filterMap (onBest prev j) = (vSome S prev j).map natD := by
  unfold vSome
  induction S with
  | nil => rfl
  | cons q S ih =>
    simp only [List.map_cons, List.filterMap_cons, List.filter_cons, spD2, onBest, Int.ofNat_le, Int.toNat_natCast] at ih ⊢
    split
    · rename_i h
      split at h
      · cases h
      · rename_i hc
        rw [if_neg hc]; exact ih
    · rename_i h
      split at h
      · rename_i hc
        cases h
        rw [if_pos hc, List.map_cons, List.map_cons, ih]
      · cases h
noncomputable def vRowL (l : SRow) (t : Nat) : List Nat := (List.range (l.length + 1)).map (vT (spN l) t)
noncomputable def vFin (l : SRow) (t : Nat) : List Nat := (List.range (t + 1)).map fun k => vT (spN l) k l.length
theorem vRowL_get {l : SRow} {t j : Nat} (hj : j ≤ l.length) : (vRowL l t)[j]? = some (vT (spN l) t j) := by
  unfold vRowL
  rw [List.getElem?_map, List.getElem?_range (by omega)]
  rfl
theorem vRowL_last {l : SRow} {t : Nat} : atI ((vRowL l t).map natD) (-1) = some (.int (vT (spN l) t l.length : Nat)) := by
  refine atI_end (f := natD) ?_
  unfold vRowL
  rw [List.length_map, List.length_range, List.getElem?_map, List.getElem?_range (by omega)]
  rfl
def mf__law_best : MF := fun as R _ => ∃ (l : SRow) (t : Nat), as = [.d (.list (endsL l l.length)), .d (.int (l.length : Nat)), .d (.int (t : Nat))] ∧ Inc l ∧ l.length ≤ 1000 ∧ t ≤ 1000 ∧ R (.d (.list ((vFin l t).map natD)))
theorem d__law_best {f : Addr} {fd : FuncData} (T : Txt K mg) (hm : mg "_law_best" = some (.ref f)) (F0 : L2.Fun K "_law_best" "_law_best" s__law_best f fd) (hb : Binds K fd ["_law_ends_here", "_law_many", "_law_bound"] []) : DFn P w K mg base CK "_law_best" 1 0 3 mf__law_best :=
  (dfn_of hm F0 hb sc__law_best (fun cdv A outer s H E cx =>
 (dss_cons (ds_tup2 (i := 3) (j := 4) (by rfl) sc__law_best.nd rfl rfl (by decide) (by first | exact Or.inl rfl | exact Or.inr rfl) (by first | exact Or.inl rfl | exact Or.inr rfl) (da_cons (de_mul (de_lst (da_cons de_int da_nil)) (de_add (de_pv 1) de_int)) (da_cons (de_lst (da_cons de_int da_nil)) da_nil)))
 (dss_cons (ds_frz 3 (ds_for (Ctx.passes rfl) (by rfl) (di_range1 (by rfl) T.n_range (da_cons (de_pv 2) da_nil)) (dg_name (i := 5) sc__law_best.nd rfl (by first | exact Or.inl rfl | exact Or.inr rfl)) (dss_cons (ds_set (i := 6) sc__law_best.nd rfl (by first | exact Or.inl rfl | exact Or.inr rfl) (de_lst (da_cons de_int da_nil)))
 (dss_cons (ds_for (Ctx.passes rfl) (by rfl) (di_range2 (by rfl) T.n_range (da_cons de_int (da_cons (de_add (de_pv 1) de_int) da_nil))) (dg_name (i := 7) sc__law_best.nd rfl (by first | exact Or.inl rfl | exact Or.inr rfl)) (dss_cons (ds_setLc (i := 8) (own := [("_law_low", 9), ("_law_high", 10)]) (dom := [9, 10]) (by rfl) sc__law_best.nd rfl rfl (sw_true rfl rfl rfl (by decide +kernel)) (di_list (de_pv 0)) (blkOk_by (by kernel_rfl)) (by decide) (fun _ _ _ _ _ => (dg_lst (by rfl) (dgs_cons (dg_name (i := 9) sc__law_best.nd rfl (by first | exact Or.inl rfl | exact Or.inr rfl)) (dgs_cons (dg_name (i := 10) sc__law_best.nd rfl (by first | exact Or.inl rfl | exact Or.inr rfl)) dgs_nil)))) (fun _ _ _ _ _ => (dts_one (dt_ch op_lt op_le (de_pv 9) (de_pv 7) (de_add (de_pv 10) de_int)))) (fun _ _ _ _ _ => (de_sub (de_add (de_ix (de_pv 3) (de_pv 9)) (de_pv 7)) (de_pv 9))))
 (dss_one (ds_mut PySem.F.slot_list_append PySem.F.type_list_append mt_append mut_app (pv 6) (da_cons (de_maxA cx.u (by rfl) (by rfl) T.n_max (da_cons (de_add (de_lst (da_cons (de_ix (de_pv 6) (de_neg de_int)) da_nil)) (de_pv 8)) da_nil)) da_nil)))))
 (dss_cons (ds_frz 6 (ds_set (i := 3) sc__law_best.nd rfl (by first | exact Or.inl rfl | exact Or.inr rfl) (de_pv 6)))
 (dss_one (ds_mut PySem.F.slot_list_append PySem.F.type_list_append mt_append mut_app (pv 4) (da_cons (de_ix (de_pv 3) (de_neg de_int)) da_nil))))))))
 (dss_one (ds_ret (de_pv 4))))))
  (by
    rintro as R ex hl ⟨l, t, rfl, I, hn, ht, h⟩
    walk_at "dx"
    rw [show ((l.length : Nat) : Int) + 1 = ((l.length + 1 : Nat) : Int) by push_cast; rfl, Int.toNat_natCast, zeros]
    have hz0 : List.replicate (l.length + 1) 0 = vRowL l 0 := by
      refine List.ext_getElem? fun i => ?_
      unfold vRowL
      rw [List.getElem?_map]
      rcases Nat.lt_or_ge i (l.length + 1) with c | c
      · rw [List.getElem?_replicate_of_lt c, List.getElem?_range c]; rfl
      · rw [List.getElem?_eq_none (by simp; omega), List.getElem?_eq_none (by simp; omega)]; rfl
    rw [hz0]
    refine ⟨by walk_at "lim", by omega, by omega, by walk_at "lim", by walk_at "lim", by omega, by omega, ?_⟩
    refine for_range (fun k δ => ∃ a5 a6 a7 a8 a9 a10 : Option DV, δ = [some (.d (.list (endsL l l.length))), some (.d (.int (l.length : Nat))), some (.d (.int (t : Nat))), some (.d (.list ((vRowL l k).map natD))), some (.own ((vFin l k).map natD)), a5, a6, a7, a8, a9, a10]) ⟨none, none, none, none, none, none, by rfl⟩ ?_ ?_
    · rintro δ ⟨a5, a6, a7, a8, a9, a10, rfl⟩
      walk_at "dx"
      exact h
    · rintro k δ K hk ⟨a5, a6, a7, a8, a9, a10, rfl⟩ hK
      walk_at "dx"
      rw [show ((l.length : Nat) : Int) + 1 = ((l.length + 1 : Nat) : Int) by push_cast; rfl]
      refine ⟨by walk_at "lim", ⟨by omega, by omega, by omega, by omega⟩, ?_⟩
      rw [show (((l.length + 1 : Nat) : Int) - 1).toNat = l.length by omega]
      refine for_range (fun j δ => ∃ a7 a8 a9 a10 : Option DV, δ = [some (.d (.list (endsL l l.length))), some (.d (.int (l.length : Nat))), some (.d (.int (t : Nat))), some (.d (.list ((vRowL l k).map natD))), some (.own ((vFin l k).map natD)), some (.d (.int (k : Nat))), some (.own (((List.range (j + 1)).map (vT (spN l) (k + 1))).map natD)), a7, a8, a9, a10]) ⟨_, _, _, _, by rw [show ((List.range (0 + 1)).map (vT (spN l) (k + 1))).map natD = [.int 0] by show [natD (vT (spN l) (k + 1) 0)] = _; rw [v_nil]; rfl]⟩ ?_ ?_
      · rintro δ ⟨a7, a8, a9, a10, rfl⟩
        walk_at "dx"
        rw [show (List.range (l.length + 1)).map (vT (spN l) (k + 1)) = vRowL l (k + 1) from rfl, vRowL_last]
        walk_at "dx"
        rw [if_pos (show ((vFin l k).map natD).length < sizeLine from by unfold vFin; rw [List.length_map, List.length_map, List.length_range]; walk_at "lim")]
        have e : (vFin l (k + 1)).map natD = (vFin l k).map natD ++ [.int (vT (spN l) (k + 1) l.length : Nat)] := by
          rw [show vFin l (k + 1) = vFin l k ++ [vT (spN l) (k + 1) l.length] by unfold vFin; rw [List.range_succ, List.map_append]; rfl, List.map_append]
          rfl
        rw [e] at hK
        exact hK _ ⟨_, _, _, _, _, _, rfl⟩
      · rintro j δ K2 hj ⟨a7, a8, a9, a10, rfl⟩ hK2
        rw [show (1 : Int) + (j : Nat) = ((j + 1 : Nat) : Int) by push_cast; omega]
        have hE : endsL l l.length = (spN l).map spD2 := endsL_map
        walk_at "dx"
        refine lc_ind (onBest (vT (spN l) k) j) _ _ (fun d hd K1 K0 q1 q0 => ?_) (by rw [endsL_len]; simp only [List.length_nil]; walk_at "lim") ?_
        · rw [hE] at hd
          obtain ⟨q, hq, rfl⟩ := List.mem_map.mp hd
          have hb := sp_bd I hq
          have eo : onBest (vT (spN l) k) j (spD2 q) = if decide (q.1 ≤ j) && decide (j ≤ q.2) then some (natD (vT (spN l) k q.1 + (j + 1 - q.1))) else none := by
            show (if decide (((q.1 : Nat) : Int) ≤ (j : Nat)) && decide (((j : Nat) : Int) ≤ (q.2 : Nat)) then some (natD (vT (spN l) k (Int.toNat (q.1 : Nat)) + (j + 1 - Int.toNat (q.1 : Nat)))) else none) = _
            simp only [Int.ofNat_le, Int.toNat_natCast]
          rw [eo] at q1 q0
          unfold spD2
          walk_at "dx"
          rw [atI_map (f := natD) q.1 rfl (vRowL_get (t := k) (show q.1 ≤ l.length by omega)), show natD (vT (spN l) k q.1) = .int (vT (spN l) k q.1 : Nat) from rfl]
          walk_at "dx"
          refine ⟨fun c1 => ⟨fun c2 => q1 _ ?_, fun c2 => q0 ?_⟩, fun c1 => q0 ?_⟩
          · rw [decide_eq_true (show q.1 ≤ j by omega), decide_eq_true (show j ≤ q.2 by omega)]
            show some (PyData.int _) = some (PyData.int _)
            congr 2
            omega
          · rw [decide_eq_false (show ¬ j ≤ q.2 by omega), Bool.and_false]; rfl
          · rw [decide_eq_false (show ¬ q.1 ≤ j by omega), Bool.false_and]; rfl
        · rw [hE, best_lc, List.nil_append, ← hE]
          rw [show atI (((List.range (j + 1)).map (vT (spN l) (k + 1))).map natD) (-1) = some (.int (vT (spN l) (k + 1) j : Nat)) from atI_end (f := natD) (by rw [List.length_map, List.length_range, List.getElem?_map, List.getElem?_range (by omega)]; rfl)]
          rw [natInts (vSome _ _ _)]
          walk_at "dx"
          rw [show (PyData.int (vT (spN l) (k + 1) j : Nat) :: ((vSome (spN l) (vT (spN l) k) j).map fun k : Nat => (k : Int)).map .int) = (((vT (spN l) (k + 1) j : Nat) : Int) :: (vSome (spN l) (vT (spN l) k) j).map fun k : Nat => (k : Int)).map .int from rfl, intsOf_map]
          dsimp only
          have hvl : (vSome (spN l) (vT (spN l) k) j).length ≤ 2 * l.length := by
            unfold vSome
            rw [List.length_map]
            refine Nat.le_trans (List.length_filter_le _ _) ?_
            have := endsL_len (l := l) (n := l.length)
            rw [hE, List.length_map] at this
            omega
          refine ⟨by walk_at "lim", by rw [List.length_map, List.length_map]; walk_at "lim", by simp, fun m hm hmx => ?_⟩
          have hmv : m = ((vT (spN l) (k + 1) (j + 1) : Nat) : Int) := by
            obtain ⟨f1, f2, f3⟩ := fold_max (vSome (spN l) (vT (spN l) k) j) (vRow (spN l) (vT (spN l) k) j)
            have hle : ∀ y ∈ (((vT (spN l) (k + 1) j : Nat) : Int) :: (vSome (spN l) (vT (spN l) k) j).map fun k : Nat => (k : Int)), y ≤ ((vT (spN l) (k + 1) (j + 1) : Nat) : Int) := fun y hy => by
              rcases List.mem_cons.mp hy with rfl | hy
              · exact Int.ofNat_le.mpr f2
              · obtain ⟨z, hz, rfl⟩ := List.mem_map.mp hy
                exact Int.ofNat_le.mpr (f1 z hz)
            have hin : ((vT (spN l) (k + 1) (j + 1) : Nat) : Int) ∈ (((vT (spN l) (k + 1) j : Nat) : Int) :: (vSome (spN l) (vT (spN l) k) j).map fun k : Nat => (k : Int)) := by
              rcases f3 with f3 | f3
              · rw [show vT (spN l) (k + 1) (j + 1) = vT (spN l) (k + 1) j from f3]
                exact List.mem_cons_self ..
              · exact List.mem_cons_of_mem _ (List.mem_map.mpr ⟨_, f3, rfl⟩)
            exact Int.le_antisymm (hle m hm) (hmx _ hin)
          subst hmv
          rw [if_pos (show (((List.range (j + 1)).map (vT (spN l) (k + 1))).map natD).length < sizeLine from by rw [List.length_map, List.length_map, List.length_range]; walk_at "lim")]
          have e : ((List.range (j + 1 + 1)).map (vT (spN l) (k + 1))).map natD = ((List.range (j + 1)).map (vT (spN l) (k + 1))).map natD ++ [.int (vT (spN l) (k + 1) (j + 1) : Nat)] := by
            rw [List.range_succ (n := j + 1), List.map_append, List.map_append]
            rfl
          rw [e] at hK2
          exact hK2 _ ⟨_, _, _, _, rfl⟩)).le (by decide +kernel)
theorem ask_most {l : SRow} {t : Nat} {R : DV → Prop} {X : DExc → Prop} (I : Inc l) (hn : l.length ≤ 1000) (ht : t ≤ l.length) (q : ∀ ps : List (Nat × Bool), (∀ p ∈ ps, p.1 < l.length) → ps.length ≤ t → cntC (spansP l ps) l.length = wT (farE l) l.length t l.length → R (.d (.tuple [natD (wT (farE l) l.length t l.length), .tuple (ps.map pushOf)]))) : mf_most_felled [.d (rowD l), .d (.int (t : Nat))] R X := by
  refine ⟨l, _, rfl, I, hn, fun e => ?_, fun t' e1 _ => ?_⟩
  · simp only [isInt] at e
    rw [decide_eq_true (show (0 : Int) ≤ (t : Nat) by omega), decide_eq_true (show ((t : Nat) : Int) ≤ (l.length : Nat) by omega)] at e
    cases e
  · cases e1
    exact q
def mf__law_growing_right : MF := fun as R _ => ∃ (l : SRow) (ks : List Nat), as = [.d (rowD l), .d (.list (ks.map natD))] ∧ RowC l ∧ 0 < ks.length ∧ ks.length ≤ 1000 ∧ (∀ k ∈ ks, k ≤ l.length) ∧ R (.d (.bool true))
theorem d__law_growing_right {f : Addr} {fd : FuncData} (T : Txt K mg) (hm : mg "_law_growing_right" = some (.ref f)) (F0 : L2.Fun K "_law_growing_right" "_law_growing_right" s__law_growing_right f fd) (hb : Binds K fd ["_law_row", "_law_numbers"] []) (F__law_best : DFn P w K mg base CK "_law_best" 1 0 3 mf__law_best) (F__law_ends : DFn P w K mg base CK "_law_ends" 2 0 1 mf__law_ends) (F_most_felled : DFn P w K mg base CK "most_felled" 6 0 2 mf_most_felled) (F__law_same : DFn P w K mg base CK "_law_same" 6 0 2 (mf__law_same 4)) (F__law_felled : DFn P w K mg base CK "_law_felled" 3 0 2 mf__law_felled) : DFn P w K mg base CK "_law_growing_right" 7 0 2 mf__law_growing_right :=
  (dfn_of hm F0 hb sc__law_growing_right (fun cdv A outer s H E cx =>
 (dss_cons (ds_set (i := 2) sc__law_growing_right.nd rfl (by first | exact Or.inl rfl | exact Or.inr rfl) (de_call cx F__law_best (by decide) (by rfl) (da_cons (de_call cx F__law_ends (by decide) (by rfl) (da_cons (de_pv 0) da_nil)) (da_cons (de_len (by rfl) T.n_len (da_cons (de_pv 0) da_nil)) (da_cons (de_maxA cx.u (by rfl) (by rfl) T.n_max (da_cons (de_pv 1) da_nil)) da_nil)))))
 (dss_cons (ds_for (Ctx.passes rfl) (by rfl) (di_list (de_pv 1)) (dg_name (i := 3) sc__law_growing_right.nd rfl (by first | exact Or.inl rfl | exact Or.inr rfl)) (dss_cons (ds_asg (de_call cx F_most_felled (by decide) (by rfl) (da_cons (de_pv 0) (da_cons (de_pv 3) da_nil))) (dg_tup (by rfl) (dgs_cons (dg_name (i := 4) sc__law_growing_right.nd rfl (by first | exact Or.inl rfl | exact Or.inr rfl)) (dgs_cons (dg_name (i := 5) sc__law_growing_right.nd rfl (by first | exact Or.inl rfl | exact Or.inr rfl)) dgs_nil))))
 (dss_one (ds_if (DW.dt (dw_or (dt_not (dt_val (de_call cx F__law_same (by decide) (by rfl) (da_cons (de_pv 4) (da_cons (de_ix (de_pv 2) (de_pv 3)) da_nil))))) (dw_or (dt_ne cx.u (de_len (by rfl) T.n_len (da_cons (de_call cx F__law_felled (by decide) (by rfl) (da_cons (de_pv 0) (da_cons (de_pv 5) da_nil))) da_nil)) (de_pv 4)) (dw_or1 (dt_gt (de_len (by rfl) T.n_len (da_cons (de_pv 5) da_nil)) (de_pv 3)))))) (dss_one (ds_ret de_bl)) dss_nil))))
 (dss_one (ds_ret de_bl)))))
  (by
    rintro as R ex hl ⟨l, ks, rfl, hB, h0, hk1, hks, h⟩
    have I := hB.i
    have hn := hB.n
    have hlen : oLen (.d (rowD l)) = fun R => R (.d (.int l.length)) := by
      unfold rowD
      funext R
      walk_at "dx"
      rw [List.length_map]
    walk_at "dx"
    refine ⟨l, rfl, I, by omega, ?_⟩
    walk_at "dx"
    rw [hlen]
    rw [natInts]
    walk_at "dx"
    rw [intsOf_map]
    dsimp only
    refine ⟨by rw [List.length_map]; omega, fun m hm hmx => ?_⟩
    obtain ⟨t, ht, rfl⟩ := List.mem_map.mp hm
    have htl := hks t ht
    refine ⟨l, t, rfl, I, by omega, by omega, rfl, by simp [DV.isBor], ?_⟩
    rw [← natInts]
    refine for_ind (fun ds δ => ∃ (r : List Nat) (a3 a4 a5 : Option DV), ds = r.map natD ∧ (∀ k ∈ r, k ≤ t) ∧ δ = [some (.d (rowD l)), some (.d (.list (ks.map natD))), some (.d (.list ((vFin l t).map natD))), a3, a4, a5]) ?_ ?_ _ _ ⟨ks, none, none, none, rfl, fun k hk => Int.ofNat_le.mp (hmx _ (List.mem_map.mpr ⟨k, hk, rfl⟩)), rfl⟩
    · rintro δ ⟨r, a3, a4, a5, _, _, rfl⟩
      walk_at "dx"
      exact h
    · rintro d ds δ K ⟨r, a3, a4, a5, e, hr, rfl⟩ hK
      cases r with
      | nil => cases e
      | cons k r =>
        obtain ⟨rfl, rfl⟩ := List.cons.inj e
        have hkt := hr k (List.mem_cons_self ..)
        have hr2 : ∀ y ∈ r, y ≤ t := fun y hy => hr y (List.mem_cons_of_mem _ hy)
        rw [show natD k = .int (k : Nat) from rfl]
        walk_at "dx"
        refine ask_most I (by omega) (by omega) fun ps hps hpl hc => ?_
        have hbest : atI ((vFin l t).map natD) (k : Nat) = some (natD (wT (farE l) l.length k l.length)) := by
          refine atI_map (f := natD) k rfl ?_
          unfold vFin
          rw [List.getElem?_map, List.getElem?_range (by omega)]
          show some (vT (spN l) k l.length) = some _
          rw [← w_eq_v (cov_of I)]
        walk_at "dx"
        rw [hbest]
        refine ⟨_, rfl, ?_, ?_⟩
        · trivial
        · walk_at "dx"
          refine ⟨l, ps, rfl, I, by omega, by omega, hps, ?_⟩
          walk_at "dx"
          rw [List.length_map, show ((List.range l.length).filter (covB (spansP l ps))).length = wT (farE l) l.length k l.length from hc, show natD (wT (farE l) l.length k l.length) = .int (wT (farE l) l.length k l.length : Nat) from rfl]
          walk_at "dx"
          refine ⟨fun z => absurd trivial z, fun c => absurd c (by rw [List.length_map]; omega), fun _ => hK _ ⟨r, _, _, _, rfl, hr2, rfl⟩⟩)).le (by decide +kernel)
def onHigh (i : Nat) : PyData → Option PyData
  | .list [.int a, .int b] => if decide (a ≤ (i : Nat)) && decide ((i : Nat) ≤ b) then some (.int b) else none
  | _ => none
theorem high_lc (P : List (Nat × Nat)) (i : Nat) : (P.map spD2).filterMap (onHigh i) = ((P.filter fun q => decide (q.1 ≤ i) && decide (i ≤ q.2)).map (·.2)).map natD := by
  induction P with
  | nil => rfl
  | cons q P ih =>
    simp only [List.map_cons, List.filterMap_cons, List.filter_cons, spD2, onHigh, Int.ofNat_le] at ih ⊢
    split
    · rename_i h
      split at h
      · cases h
      · rename_i hc
        rw [if_neg hc]; exact ih
    · rename_i h
      split at h
      · rename_i hc
        cases h
        rw [if_pos hc, List.map_cons, List.map_cons, ih]; rfl
      · cases h
def mf__law_needed : MF := fun as R _ => ∃ (l : SRow) (ks : List Nat), as = [.d (rowD l), .d (.list (ks.map natD))] ∧ RowC l ∧ ks.length ≤ 1000 ∧ (∀ k ∈ ks, k < l.length) ∧ R (.d (natD (needF (farE l) 0 (srtN ks))))
theorem d__law_needed {f : Addr} {fd : FuncData} (T : Txt K mg) (hm : mg "_law_needed" = some (.ref f)) (F0 : L2.Fun K "_law_needed" "_law_needed" s__law_needed f fd) (hb : Binds K fd ["_law_row", "_law_some"] []) (F__law_ends : DFn P w K mg base CK "_law_ends" 2 0 1 mf__law_ends) : DFn P w K mg base CK "_law_needed" 3 0 2 mf__law_needed :=
  (dfn_of hm F0 hb sc__law_needed (fun cdv A outer s H E cx =>
 (dss_cons (ds_par3 (i := 2) (j := 3) (l := 4) (by rfl) sc__law_needed.nd rfl rfl rfl (by decide) (by decide) (by decide) rfl rfl rfl (da_cons (de_call cx F__law_ends (by decide) (by rfl) (da_cons (de_pv 0) da_nil)) (da_cons (de_neg de_int) (da_cons de_int da_nil))) (by rfl))
 (dss_cons (ds_for (Ctx.passes rfl) (by rfl) (di_list (de_sorted (by rfl) T.n_sorted (da_cons (de_pv 1) da_nil))) (dg_name (i := 5) sc__law_needed.nd rfl (by first | exact Or.inl rfl | exact Or.inr rfl)) (dss_one (ds_if (dt_gt (de_pv 5) (de_pv 3)) (dss_cons (ds_set (i := 3) sc__law_needed.nd rfl (by first | exact Or.inl rfl | exact Or.inr rfl) (de_maxA cx.u (by rfl) (by rfl) T.n_max (da_cons (de_lc (own := [("_law_low", 6), ("_law_high", 7)]) (dom := [6, 7]) (by rfl) sc__law_needed.nd (di_list (de_pv 2)) (blkOk_by (by kernel_rfl)) (by decide) (fun _ _ _ _ _ => (dg_lst (by rfl) (dgs_cons (dg_name (i := 6) sc__law_needed.nd rfl (by first | exact Or.inl rfl | exact Or.inr rfl)) (dgs_cons (dg_name (i := 7) sc__law_needed.nd rfl (by first | exact Or.inl rfl | exact Or.inr rfl)) dgs_nil)))) (fun _ _ _ _ _ => (dts_one (dt_ch op_le op_le (de_pv 6) (de_pv 5) (de_pv 7)))) (fun _ _ _ _ _ => (de_pv 7))) da_nil)))
 (dss_one (ds_set (i := 4) sc__law_needed.nd rfl (by first | exact Or.inl rfl | exact Or.inr rfl) (de_add (de_pv 4) de_int)))) dss_nil)))
 (dss_one (ds_ret (de_pv 4))))))
  (by
    rintro as R ex hl ⟨l, ks, rfl, hB, hk1, hks, h⟩
    have I := hB.i
    have hn := hB.n
    walk_at "dx"
    refine ⟨l, rfl, I, by omega, rfl, ?_⟩
    have hE : endsL l l.length = (spN l).map spD2 := endsL_map
    obtain ⟨tot, htot⟩ : ∃ t, t = needF (farE l) 0 (srtN ks) := ⟨_, rfl⟩
    rw [← htot] at h
    rw [natInts, intsOf_map]
    dsimp only
    rw [srt_int, ← natInts, ← natInts]
    refine ⟨by simp [DV.isBor], ?_⟩
    refine for_ind (fun ds δ => ∃ (r : List Nat) (c h2 : Nat) (a5 a6 a7 : Option DV), ds = r.map natD ∧ (∀ x ∈ r, x < l.length) ∧ c + needF (farE l) h2 r = tot ∧ δ = [some (.d (rowD l)), some (.d (.list (ks.map natD))), some (.d (.list (endsL l l.length))), some (.d (.int ((h2 : Nat) - 1))), some (.d (.int (c : Nat))), a5, a6, a7]) ?_ ?_ _ _ ⟨srtN ks, 0, 0, none, none, none, rfl, fun x hx => hks x (srt_mem.mp hx), by rw [Nat.zero_add, htot], rfl⟩
    · rintro δ ⟨r, c, h2, a5, a6, a7, e, _, hc, rfl⟩
      have hr : r = [] := by
        cases r with
        | nil => rfl
        | cons _ _ => cases e
      subst hr
      rw [show needF (farE l) h2 [] = 0 from rfl, Nat.add_zero] at hc
      rw [← hc] at h
      walk_at "dx"
      exact h
    · rintro d ds δ K2 ⟨r, c, h2, a5, a6, a7, e, hr, hc, rfl⟩ hK2
      cases r with
      | nil => cases e
      | cons x r =>
        obtain ⟨rfl, rfl⟩ := List.cons.inj e
        have hx := hr x (List.mem_cons_self ..)
        have hr2 : ∀ y ∈ r, y < l.length := fun y hy => hr y (List.mem_cons_of_mem _ hy)
        rw [show natD x = .int (x : Nat) from rfl]
        unfold needF at hc
        walk_at "dx"
        refine ⟨fun c1 => ?_, fun c1 => ?_⟩
        · rw [if_pos (by omega)] at hc
          refine lc_ind (onHigh x) _ _ (fun d hd K1 K0 q1 q0 => ?_) (by rw [endsL_len]; simp only [List.length_nil]; walk_at "lim") ?_
          · rw [hE] at hd
            obtain ⟨q, hq, rfl⟩ := List.mem_map.mp hd
            unfold spD2 at q1 q0 ⊢
            walk_at "dx"
            refine ⟨fun c1 => ⟨fun c2 => q1 _ ?_, fun c2 => q0 ?_⟩, fun c1 => q0 ?_⟩
            · show (if _ then _ else _) = _
              rw [decide_eq_true c1, decide_eq_true c2]; rfl
            · show (if _ then _ else _) = _
              rw [decide_eq_false c2, Bool.and_false]; rfl
            · show (if _ then _ else _) = _
              rw [decide_eq_false c1, Bool.false_and]; rfl
          · rw [hE, high_lc, List.nil_append, ← hE, natInts (List.map _ _)]
            walk_at "dx"
            rw [intsOf_map]
            dsimp only
            have hov : ((spN l).filter fun q => decide (q.1 ≤ x) && decide (x ≤ q.2)).map (·.2) = overN l x := rfl
            rw [hov]
            have hown := endOf_ok I hx
            have hpos : 0 < (overN l x).length := List.length_pos_of_mem (over_mem.mpr ⟨(x, endOf l x), sp_mem.mpr ⟨x, hx, .inr rfl⟩, Nat.le_refl _, hown.le, rfl⟩)
            refine ⟨by rw [List.length_map]; exact hpos, fun m hm hmx => ?_⟩
            obtain ⟨z, hz, rfl⟩ := List.mem_map.mp hm
            have hzf := far_of hz fun y hy => Int.ofNat_le.mp (hmx _ (List.mem_map.mpr ⟨y, hy, rfl⟩))
            subst hzf
            refine hK2 _ ⟨r, c + 1, farE l x + 1, some (.d (.int (x : Nat))), a6, a7, rfl, hr2, by omega, ?_⟩
            rw [show (((farE l x + 1 : Nat) : Int) - 1) = (farE l x : Nat) by push_cast; omega]
            rfl
        · rw [if_neg (by omega)] at hc
          exact hK2 _ ⟨r, c, h2, _, _, _, rfl, hr2, hc, rfl⟩)).le (by decide +kernel)
section
variable {f : Nat → Nat} {n : Nat}
structure MonF (f : Nat → Nat) (n : Nat) : Prop where
  own : ∀ i, i < n → i ≤ f i
  mono : ∀ i j, i ≤ j → j < n → f i ≤ f j
theorem need_ab (M : MonF f n) : ∀ (L : List Nat), L.Pairwise (· ≤ ·) → (∀ x ∈ L, x < n) → (∀ h h', h ≤ h' → needF f h' L ≤ needF f h L) ∧ ∀ h h', h ≤ h' → (∀ x ∈ L, h' ≤ f x + 1) → needF f h L ≤ needF f h' L + 1
  | [], _, _ => ⟨fun _ _ _ => Nat.le_refl _, fun _ _ _ _ => Nat.zero_le _⟩
  | s :: r, hp, hn => by
    obtain ⟨hp1, hp2⟩ := List.pairwise_cons.mp hp
    have hr : ∀ x ∈ r, x < n := fun x hx => hn x (List.mem_cons_of_mem _ hx)
    obtain ⟨A, B⟩ := need_ab M r hp2 hr
    have hs := hn s (List.mem_cons_self ..)
    have hC : ∀ x ∈ r, f s + 1 ≤ f x + 1 := fun x hx => Nat.succ_le_succ (M.mono s x (hp1 x hx) (hr x hx))
    refine ⟨fun h h' hh => ?_, fun h h' hh hc => ?_⟩
    · unfold needF
      by_cases c : h ≤ s
      · rw [if_pos c]
        by_cases c2 : h' ≤ s
        · rw [if_pos c2]; exact Nat.le_refl _
        · rw [if_neg c2]
          rcases Nat.le_total h' (f s + 1) with q | q
          · have := B h' (f s + 1) q hC
            omega
          · have := A (f s + 1) h' q
            omega
      · rw [if_neg c, if_neg (by omega)]
        exact A h h' hh
    · have hcr : ∀ x ∈ r, h' ≤ f x + 1 := fun x hx => hc x (List.mem_cons_of_mem _ hx)
      unfold needF
      by_cases c : h ≤ s
      · rw [if_pos c]
        by_cases c2 : h' ≤ s
        · rw [if_pos c2]; omega
        · rw [if_neg c2]
          have := A h' (f s + 1) (hc s (List.mem_cons_self ..))
          omega
      · rw [if_neg c, if_neg (by omega)]
        exact B h h' hh hcr
/-- one stone more -/
theorem need_ins (M : MonF f n) : ∀ (p q : List Nat) (x h : Nat), (p ++ x :: q).Pairwise (· ≤ ·) → (∀ y ∈ p ++ x :: q, y < n) → needF f h (p ++ q) ≤ needF f h (p ++ x :: q) ∧ needF f h (p ++ x :: q) ≤ needF f h (p ++ q) + 1
  | [], q, x, h, hp, hn => by
    have hp' : (x :: q).Pairwise (· ≤ ·) := hp
    have hn' : ∀ y ∈ x :: q, y < n := hn
    obtain ⟨hp1, hp2⟩ := List.pairwise_cons.mp hp'
    have hr : ∀ y ∈ q, y < n := fun y hy => hn' y (List.mem_cons_of_mem _ hy)
    obtain ⟨A, B⟩ := need_ab M q hp2 hr
    have hx := hn' x (List.mem_cons_self ..)
    have hC : ∀ y ∈ q, f x + 1 ≤ f y + 1 := fun y hy => Nat.succ_le_succ (M.mono x y (hp1 y hy) (hr y hy))
    have hu : needF f h (x :: q) = if h ≤ x then 1 + needF f (f x + 1) q else needF f h q := rfl
    show needF f h q ≤ needF f h (x :: q) ∧ needF f h (x :: q) ≤ needF f h q + 1
    rw [hu]
    by_cases c : h ≤ x
    · rw [if_pos c]
      have hle : h ≤ f x + 1 := by have := M.own x hx; omega
      have := A h (f x + 1) hle
      have := B h (f x + 1) hle hC
      omega
    · rw [if_neg c]; omega
  | s :: p, q, x, h, hp, hn => by
    have hp' : (s :: (p ++ x :: q)).Pairwise (· ≤ ·) := hp
    have hn' : ∀ y ∈ s :: (p ++ x :: q), y < n := hn
    obtain ⟨_, hp2⟩ := List.pairwise_cons.mp hp'
    have hr : ∀ y ∈ p ++ x :: q, y < n := fun y hy => hn' y (List.mem_cons_of_mem _ hy)
    show needF f h (s :: (p ++ q)) ≤ needF f h (s :: (p ++ x :: q)) ∧ needF f h (s :: (p ++ x :: q)) ≤ needF f h (s :: (p ++ q)) + 1
    unfold needF
    split
    · have := need_ins M p q x (f s + 1) hp2 hr
      omega
    · exact need_ins M p q x h hp2 hr
theorem need_le_gr (M : MonF f n) : ∀ (L : List Nat) (h : Nat), L.Pairwise (· ≤ ·) → (∀ x ∈ L, x < n) → ∀ F, n - h ≤ F → needF f h L ≤ gr f n F h
  | [], h, _, _, F, _ => Nat.zero_le _
  | s :: r, h, hp, hn, F, hF => by
    obtain ⟨hp1, hp2⟩ := List.pairwise_cons.mp hp
    have hr : ∀ x ∈ r, x < n := fun x hx => hn x (List.mem_cons_of_mem _ hx)
    have hs := hn s (List.mem_cons_self ..)
    unfold needF
    split
    · rename_i c
      have ho := M.own s hs
      have h1 := need_le_gr M r (f s + 1) hp2 hr n (by omega)
      have h2 : gr f n (n + 1) s ≤ gr f n F h := gr_le (fun i hi => M.own i hi) (fun i hi => M.own i hi) (fun i j hij hj => M.mono i j hij hj) F (n + 1) h s c hF (by omega)
      have h3 : gr f n (n + 1) s = 1 + gr f n n (f s + 1) := by
        conv => lhs; unfold gr
        rw [if_pos hs]
      omega
    · exact need_le_gr M r h hp2 hr F hF
theorem srt_ins (ks : List Nat) (x : Nat) : ∃ p q, srtN (ks ++ [x]) = p ++ x :: q ∧ srtN ks = p ++ q := by
  refine ⟨(srtN ks).filter fun a => decide (a ≤ x), (srtN ks).filter fun a => !decide (a ≤ x), ?_, ?_⟩
  · refine (srt_of ?_ ?_).symm
    · have h1 : ((srtN ks).filter (fun a => decide (a ≤ x)) ++ (srtN ks).filter fun a => !decide (a ≤ x)).Perm (srtN ks) := List.filter_append_perm _ _
      exact List.perm_middle.trans ((h1.trans srt_perm).cons x |>.trans (List.perm_append_comm (l₁ := [x]) (l₂ := ks)))
    · refine List.pairwise_append.mpr ⟨List.Pairwise.sublist List.filter_sublist srt_asc, List.pairwise_cons.mpr ⟨fun a ha => ?_, List.Pairwise.sublist List.filter_sublist srt_asc⟩, fun a ha b hb => ?_⟩
      · have := (List.mem_filter.mp ha).2
        simp at this
        omega
      · have h1 := (List.mem_filter.mp ha).2
        simp at h1
        rcases List.mem_cons.mp hb with rfl | hb
        · exact h1
        · have := (List.mem_filter.mp hb).2
          simp at this
          omega
  · refine (srt_of ((List.filter_append_perm _ _).trans srt_perm) ?_).symm
    refine List.pairwise_append.mpr ⟨List.Pairwise.sublist List.filter_sublist srt_asc, List.Pairwise.sublist List.filter_sublist srt_asc, fun a ha b hb => ?_⟩
    have h1 := (List.mem_filter.mp ha).2
    have h2 := (List.mem_filter.mp hb).2
    simp at h1 h2
    omega
theorem need_more (M : MonF f n) {ks : List Nat} {x : Nat} (hk : ∀ y ∈ ks, y < n) (hx : x < n) : needF f 0 (srtN ks) ≤ needF f 0 (srtN (ks ++ [x])) ∧ needF f 0 (srtN (ks ++ [x])) ≤ needF f 0 (srtN ks) + 1 := by
  obtain ⟨p, q, e1, e2⟩ := srt_ins ks x
  have h1 := srt_asc (ks := ks ++ [x])
  have h2 : ∀ y ∈ srtN (ks ++ [x]), y < n := fun y hy => by
    rcases List.mem_append.mp (srt_mem.mp hy) with h | h
    · exact hk y h
    · cases List.mem_singleton.mp h; exact hx
  rw [e1] at h1 h2 ⊢
  rw [e2]
  exact need_ins M p q x 0 h1 h2
theorem srt_swap {ks ms : List Nat} (h : ks.Perm ms) : srtN ks = srtN ms := srt_of (srt_perm.trans h) srt_asc
/-- the same stones, some of them again -/
theorem need_dup (M : MonF f n) : ∀ (L D : List Nat) (h : Nat), L.Pairwise (· ≤ ·) → D.Pairwise (· < ·) → (∀ x, x ∈ L ↔ x ∈ D) → (∀ x ∈ L, x < n) → needF f h L = needF f h D
  | [], D, h, _, _, hm, _ => by
    cases D with
    | nil => rfl
    | cons d D => exact absurd ((hm d).mpr (List.mem_cons_self ..)) (by simp)
  | s :: r, D, h, hp, hD, hm, hn => by
    obtain ⟨hp1, hp2⟩ := List.pairwise_cons.mp hp
    have hr : ∀ x ∈ r, x < n := fun x hx => hn x (List.mem_cons_of_mem _ hx)
    have hs := hn s (List.mem_cons_self ..)
    by_cases c : s ∈ r
    · have hm2 : ∀ x, x ∈ r ↔ x ∈ D := fun x => by
        rw [← hm x, List.mem_cons]
        exact ⟨.inr, fun z => z.elim (fun e => e ▸ c) id⟩
      rw [← need_dup M r D h hp2 hD hm2 hr]
      obtain ⟨t, r', rfl⟩ : ∃ t r', r = t :: r' := by cases r with | nil => cases c | cons t r' => exact ⟨t, r', rfl⟩
      have hts : t = s := by
        have h1 := hp1 t (List.mem_cons_self ..)
        rcases List.mem_cons.mp c with e | e
        · exact e.symm
        · have := (List.pairwise_cons.mp hp2).1 s e
          omega
      subst hts
      have ho := M.own t hs
      unfold needF
      split
      · rw [show needF f (f t + 1) (t :: r') = needF f (f t + 1) r' by
          conv => lhs; unfold needF
          rw [if_neg (by omega)]]
      · rename_i hc
        conv => lhs; unfold needF
        rw [if_neg hc]
    · cases D with
      | nil => exact absurd ((hm s).mp (List.mem_cons_self ..)) (by simp)
      | cons d D =>
        obtain ⟨hD1, hD2⟩ := List.pairwise_cons.mp hD
        have hds : d = s := by
          have h1 : d ∈ s :: r := (hm d).mpr (List.mem_cons_self ..)
          have h2 : s ∈ d :: D := (hm s).mp (List.mem_cons_self ..)
          rcases List.mem_cons.mp h1 with e | e
          · exact e
          · have h3 := hp1 d e
            rcases List.mem_cons.mp h2 with e2 | e2
            · exact e2.symm
            · have := hD1 s e2
              omega
        subst hds
        have hm2 : ∀ x, x ∈ r ↔ x ∈ D := fun x => by
          constructor
          · intro hx
            rcases List.mem_cons.mp ((hm x).mp (List.mem_cons_of_mem _ hx)) with e | e
            · subst e; exact absurd hx c
            · exact e
          · intro hx
            rcases List.mem_cons.mp ((hm x).mpr (List.mem_cons_of_mem _ hx)) with e | e
            · subst e; exact absurd (hD1 x hx) (Nat.lt_irrefl _)
            · exact e
        unfold needF
        rw [need_dup M r D (f d + 1) hp2 hD2 hm2 hr, need_dup M r D h hp2 hD2 hm2 hr]
end
theorem mon_of {l : SRow} (I : Inc l) : MonF (farE l) l.length := ⟨fun i hi => far_own I hi, fun i j h hj => (cov_of I).mono h hj⟩
/-- stones apart need a push each -/
theorem need_apart {l : SRow} (I : Inc l) : ∀ (L : List Nat) (h : Nat), (∀ x ∈ L, x < l.length) → apartB l L = true → (∀ x, L.head? = some x → h ≤ x) → needF (farE l) h L = L.length
  | [], h, _, _, _ => rfl
  | [x], h, _, _, hh => by
    unfold needF
    rw [if_pos (hh x rfl)]
    rfl
  | x :: y :: r, h, hn, ha, hh => by
    unfold apartB at ha
    rw [Bool.and_eq_true] at ha
    have hx := hn x (List.mem_cons_self ..)
    have h2 : Apart2 l x y = true := ha.1
    unfold Apart2 at h2
    rw [Bool.and_eq_true, decide_eq_true_eq, Bool.not_eq_true', List.any_eq_false] at h2
    have hf : farE l x < y := by
      obtain ⟨q, q1, q2, q3, q4⟩ := far_ex I hx
      rcases Nat.lt_or_ge (farE l x) y with c | c
      · exact c
      · exact absurd (show id (decide (q.1 ≤ x) && decide (y ≤ q.2)) = true by rw [decide_eq_true q2, decide_eq_true (show y ≤ q.2 by omega)]; rfl) (h2.2 _ (List.mem_map.mpr ⟨q, q1, rfl⟩))
    have ih := need_apart I (y :: r) (farE l x + 1) (fun z hz => hn z (List.mem_cons_of_mem _ hz)) ha.2 (fun z hz => by cases hz; omega)
    rw [show needF (farE l) h (x :: y :: r) = if h ≤ x then 1 + needF (farE l) (farE l x + 1) (y :: r) else needF (farE l) h (y :: r) from rfl, if_pos (hh x rfl), ih, List.length_cons (a := x), Nat.add_comm]
noncomputable def nd (l : SRow) (ks : List Nat) : Nat := needF (farE l) 0 (srtN ks)
theorem bad_nats {n : Nat} : ∀ {ks : List Nat}, (∀ k ∈ ks, k < n) → badSt n (ks.map natD) = none
  | [], _ => rfl
  | k :: ks, h => by
    unfold badSt
    rw [List.map_cons, List.find?_cons, show isInt (natD k) 0 ((n : Nat) - 1) = true from is_st (h k (List.mem_cons_self ..))]
    exact bad_nats fun x hx => h x (List.mem_cons_of_mem _ hx)
theorem ask_few {l : SRow} {ks : List Nat} {as : List DV} {R : DV → Prop} {X : DExc → Prop} (I : Inc l) (e : as = .d (rowD l) :: (ks.map natD).map DV.d) (hl : ks.length ≤ 1000) (hk : ∀ k ∈ ks, k < l.length) (q : R (.d (natD (nd l ks)))) : mf_fewest_for as R X := by
  refine ⟨l, ks.map natD, e, I, by rw [List.length_map]; exact hl, fun v hv => ?_, fun ms he hm => ?_⟩
  · rw [bad_nats hk] at hv; cases hv
  · have : ms = ks := by
      have h2 := congrArg (List.map fun d => match d with | PyData.int i => i.toNat | _ => 0) he
      rw [List.map_map, List.map_map] at h2
      have e1 : ∀ xs : List Nat, xs.map ((fun d => match d with | PyData.int i => i.toNat | _ => 0) ∘ natD) = xs := fun xs => List.map_id'' (fun k => Int.toNat_natCast k) xs
      rw [e1, e1] at h2
      exact h2.symm
    subst this
    exact q
theorem takes_of {F : List Nat → Nat} {a b c d e f g : Nat} : [PyData.int 0, .int 1, .int 2, .int 3, .int 4, .int 5, .int 7].filterMap (onInt fun i => some (natD (F ([a, b, c, d, e, f, g].take i.toNat)))) = [natD (F []), natD (F [a]), natD (F [a, b]), natD (F [a, b, c]), natD (F [a, b, c, d]), natD (F [a, b, c, d, e]), natD (F [a, b, c, d, e, f, g])] := rfl
theorem take_on {F : List Nat → Nat} {xs : List Nat} {k : Nat} : onInt (fun i => some (natD (F (xs.take i.toNat)))) (.int (k : Nat)) = some (natD (F (xs.take k))) := rfl
def mVars : List Nat → MA
  | [] => mNil
  | i :: is => mCons (mVar i) (mVars is)
theorem vars_run {ex : XD} {δ : DL.Env} : ∀ (is : List Nat) (ds : List PyData) {R : List DV → Prop}, (is.map fun i => δ[i]?) = ds.map (fun d => some (some (DV.d d))) → R (ds.map DV.d) → mVars is ex δ R
  | [], [], R, _, h => h
  | i :: is, d :: ds, R, e, h => by
    rw [List.map_cons, List.map_cons] at e
    obtain ⟨e1, e2⟩ := List.cons.inj e
    unfold mVars mCons mVar
    simp only [e1]
    exact vars_run is ds e2 h
theorem argsD_d : ∀ ds : List PyData, argsD (ds.map DV.d) = some (ds.map DV.d) := fun ds => by
  induction ds with
  | nil => rfl
  | cons d ds ih => rw [List.map_cons]; unfold argsD; rw [ih]
theorem calls_vars {mf : MF} {ex : XD} {δ : DL.Env} {R : DV → Prop} (is : List Nat) (ds : List PyData) (e : (is.map fun i => δ[i]?) = ds.map (fun d => some (some (DV.d d)))) (h : mf (ds.map DV.d) R (fun e => ex e δ)) : mCallS mf (mVars is) ex δ R := by
  refine vars_run is ds e ?_
  simp only [argsD_d]
  exact h
def mf__law_some_right : MF := fun as R _ => ∃ (l : SRow), as = [.cask, .d (rowD l)] ∧ RowC l ∧ R (.d (.bool true))
theorem d__law_some_right {f : Addr} {fd : FuncData} (T : Txt K mg) (hm : mg "_law_some_right" = some (.ref f)) (F0 : L2.Fun K "_law_some_right" "_law_some_right" s__law_some_right f fd) (hb : Binds K fd ["_law_bag", "_law_row"] []) (F__law_take : DFn P w K mg base CK "_law_take" 1 1 2 mf__law_take) (F_fewest_for : DFnS P w K mg base CK "fewest_for" 5 0 mf_fewest_for) (F__law_needed : DFn P w K mg base CK "_law_needed" 3 0 2 mf__law_needed) (F__law_same : DFn P w K mg base CK "_law_same" 6 0 2 (mf__law_same 4)) (F_fewest_pushes : DFn P w K mg base CK "fewest_pushes" 6 0 1 mf_fewest_pushes) (F_are_apart : DFn P w K mg base CK "are_apart" 4 0 2 mf_are_apart) : DFn P w K mg base CK "_law_some_right" 7 7 2 mf__law_some_right :=
  (dfn_of hm F0 hb sc__law_some_right (fun cdv A outer s H E cx =>
 (dss_cons (ds_asg (de_lcN 7 (own := [("_law_k", 9)]) (dom := [9]) (by rfl) sc__law_some_right.nd (di_range1 (by rfl) T.n_range (da_cons de_int da_nil)) (blkOk_by (by kernel_rfl)) (by decide) (fun _ _ _ _ _ => (dg_name (i := 9) sc__law_some_right.nd rfl (by first | exact Or.inl rfl | exact Or.inr rfl))) (fun _ _ _ _ _ => dts_nil) (fun _ _ _ _ _ => (de_call cx.blk F__law_take (by decide) (by rfl) (da_cons (de_pv 0) (da_cons (de_len (by rfl) T.n_len (da_cons (de_pv 1) da_nil)) da_nil))))) (dg_lst (by rfl) (dgs_cons (dg_name (i := 2) sc__law_some_right.nd rfl (by first | exact Or.inl rfl | exact Or.inr rfl)) (dgs_cons (dg_name (i := 3) sc__law_some_right.nd rfl (by first | exact Or.inl rfl | exact Or.inr rfl)) (dgs_cons (dg_name (i := 4) sc__law_some_right.nd rfl (by first | exact Or.inl rfl | exact Or.inr rfl)) (dgs_cons (dg_name (i := 5) sc__law_some_right.nd rfl (by first | exact Or.inl rfl | exact Or.inr rfl)) (dgs_cons (dg_name (i := 6) sc__law_some_right.nd rfl (by first | exact Or.inl rfl | exact Or.inr rfl)) (dgs_cons (dg_name (i := 7) sc__law_some_right.nd rfl (by first | exact Or.inl rfl | exact Or.inr rfl)) (dgs_cons (dg_name (i := 8) sc__law_some_right.nd rfl (by first | exact Or.inl rfl | exact Or.inr rfl)) dgs_nil)))))))))
 (dss_cons (ds_par2 (i := 10) (j := 11) (by rfl) sc__law_some_right.nd rfl rfl (by decide) rfl rfl (da_cons (de_callSt cx F_fewest_for (by decide) (by rfl) (da_cons (de_pv 1) (da_cons (de_pv 2) (da_cons (de_pv 3) da_nil)))) (da_cons (de_callSt cx F_fewest_for (by decide) (by rfl) (da_cons (de_pv 1) (da_cons (de_pv 2) (da_cons (de_pv 3) (da_cons (de_pv 4) da_nil))))) da_nil)) (by rfl))
 (dss_cons (ds_set (i := 12) sc__law_some_right.nd rfl (by first | exact Or.inl rfl | exact Or.inr rfl) (de_lst (da_cons (de_callSt cx F_fewest_for (by decide) (by rfl) (da_cons (de_pv 1) da_nil)) (da_cons (de_callSt cx F_fewest_for (by decide) (by rfl) (da_cons (de_pv 1) (da_cons (de_pv 2) da_nil))) (da_cons (de_pv 10) (da_cons (de_pv 11) (da_cons (de_callSt cx F_fewest_for (by decide) (by rfl) (da_cons (de_pv 1) (da_cons (de_pv 2) (da_cons (de_pv 3) (da_cons (de_pv 4) (da_cons (de_pv 5) da_nil)))))) da_nil)))))))
 (dss_cons (ds_set (i := 12) sc__law_some_right.nd rfl (by first | exact Or.inl rfl | exact Or.inr rfl) (de_add (de_pv 12) (de_lst (da_cons (de_callSt cx F_fewest_for (by decide) (by rfl) (da_cons (de_pv 1) (da_cons (de_pv 2) (da_cons (de_pv 3) (da_cons (de_pv 4) (da_cons (de_pv 5) (da_cons (de_pv 6) da_nil))))))) (da_cons (de_callSt cx F_fewest_for (by decide) (by rfl) (da_cons (de_pv 1) (da_cons (de_pv 2) (da_cons (de_pv 3) (da_cons (de_pv 4) (da_cons (de_pv 5) (da_cons (de_pv 6) (da_cons (de_pv 7) (da_cons (de_pv 8) da_nil))))))))) da_nil)))))
 (dss_cons (ds_setLc (i := 13) (own := [("_law_many", 14)]) (dom := [14]) (by rfl) sc__law_some_right.nd rfl rfl (sw_true rfl rfl rfl (by decide +kernel)) (di_tup (de_tup (da_cons de_int (da_cons de_int (da_cons de_int (da_cons de_int (da_cons de_int (da_cons de_int (da_cons de_int da_nil))))))))) (blkOk_by (by kernel_rfl)) (by decide) (fun _ _ _ _ _ => (dg_name (i := 14) sc__law_some_right.nd rfl (by first | exact Or.inl rfl | exact Or.inr rfl))) (fun _ _ _ _ _ => dts_nil) (fun _ _ _ _ _ => (de_call cx.blk F__law_needed (by decide) (by rfl) (da_cons (de_pv 1) (da_cons (de_slice (de_lst (da_cons (de_pv 2) (da_cons (de_pv 3) (da_cons (de_pv 4) (da_cons (de_pv 5) (da_cons (de_pv 6) (da_cons (de_pv 7) (da_cons (de_pv 8) da_nil)))))))) do_none (do_some (de_pv 14))) da_nil)))))
 (dss_cons (ds_frz 13 (ds_frz 12 (ds_if (DW.dt (dw_or (dt_not (dt_val (de_call cx F__law_same (by decide) (by rfl) (da_cons (de_pv 12) (da_cons (de_pv 13) da_nil))))) (dw_or (dt_ne cx.u (de_callSt cx F_fewest_for (by decide) (by rfl) (da_cons (de_pv 1) (da_cons (de_pv 3) (da_cons (de_pv 2) da_nil)))) (de_pv 10)) (dw_or1 (dt_ne cx.u (de_callSt cx F_fewest_for (by decide) (by rfl) (da_cons (de_pv 1) (da_cons (de_pv 4) (da_cons (de_pv 2) (da_cons (de_pv 3) da_nil))))) (de_pv 11)))))) (dss_one (ds_ret de_bl)) dss_nil)))
 (dss_cons (ds_if (DW.dt (dw_or (dt_not (dt_ch3 op_le op_le op_le de_int (de_pv 10) (de_pv 11) (de_add (de_pv 10) de_int))) (dw_or (dt_gt (de_pv 11) (de_call cx F_fewest_pushes (by decide) (by rfl) (da_cons (de_pv 1) da_nil))) (dw_or1 (dt_ne cx.u (de_callSt cx F_fewest_for (by decide) (by rfl) (da_cons (de_pv 1) (da_cons (de_pv 2) (da_cons (de_pv 2) da_nil)))) de_int))))) (dss_one (ds_ret de_bl)) dss_nil)
 (dss_cons (ds_set (i := 15) sc__law_some_right.nd rfl (by first | exact Or.inl rfl | exact Or.inr rfl) (de_tupleC (by rfl) T.n_tuple (da_cons (de_sortSetL (by rfl) (by rfl) T.n_sorted (by rfl) T.n_set (da_cons (de_lst (da_cons (de_pv 2) (da_cons (de_pv 3) (da_cons (de_pv 4) da_nil)))) da_nil)) da_nil)))
 (dss_one (ds_ret (de_or (de_not (de_call cx F_are_apart (by decide) (by rfl) (da_cons (de_pv 1) (da_cons (de_pv 15) da_nil)))) (de_one (de_eq cx.u (de_pv 11) (de_len (by rfl) T.n_len (da_cons (de_pv 15) da_nil))))))))))))))))
  (by
    rintro as R ex hl ⟨l, rfl, hB, h⟩
    have I := hB.i
    have hn := hB.n
    have hn0 := I.n0
    have hlen : oLen (.d (rowD l)) = fun R => R (.d (.int l.length)) := by
      unfold rowD
      funext R
      walk_at "dx"
      rw [List.length_map]
    walk_at "db"
    refine seq_gen (fun δ => ∃ a b c d e f g : Nat, (a < l.length ∧ b < l.length ∧ c < l.length ∧ d < l.length ∧ e < l.length ∧ f < l.length ∧ g < l.length) ∧ δ = [some .cask, some (.d (rowD l)), some (.d (.int (a : Nat))), some (.d (.int (b : Nat))), some (.d (.int (c : Nat))), some (.d (.int (d : Nat))), some (.d (.int (e : Nat))), some (.d (.int (f : Nat))), some (.d (.int (g : Nat))), none, none, none, none, none, none, none]) ?_ fun K hK => ?_
    rotate_left
    · walk_at "dx"
      refine ⟨by decide, by decide, by decide, ?_⟩
      rw [show rangeD 0 (Int.toNat 7) = [.int 0, .int 1, .int 2, .int 3, .int 4, .int 5, .int 6] from rfl]
      simp only [lcRun]
      walk_at "dx"
      rw [hlen]
      walk_at "dx"
      refine ⟨l.length, rfl, by omega, by omega, fun xa xa0 xa1 => ?_⟩
      walk_at "dx"
      refine ⟨by walk_at "lim", l.length, rfl, by omega, by omega, fun xb xb0 xb1 => ?_⟩
      walk_at "dx"
      refine ⟨by walk_at "lim", l.length, rfl, by omega, by omega, fun xc xc0 xc1 => ?_⟩
      walk_at "dx"
      refine ⟨by walk_at "lim", l.length, rfl, by omega, by omega, fun xd xd0 xd1 => ?_⟩
      walk_at "dx"
      refine ⟨by walk_at "lim", l.length, rfl, by omega, by omega, fun xe xe0 xe1 => ?_⟩
      walk_at "dx"
      refine ⟨by walk_at "lim", l.length, rfl, by omega, by omega, fun xf xf0 xf1 => ?_⟩
      walk_at "dx"
      refine ⟨by walk_at "lim", l.length, rfl, by omega, by omega, fun xg xg0 xg1 => ?_⟩
      walk_at "dx"
      obtain ⟨a, rfl⟩ := Int.eq_ofNat_of_zero_le xa0
      obtain ⟨b, rfl⟩ := Int.eq_ofNat_of_zero_le xb0
      obtain ⟨c, rfl⟩ := Int.eq_ofNat_of_zero_le xc0
      obtain ⟨d, rfl⟩ := Int.eq_ofNat_of_zero_le xd0
      obtain ⟨e, rfl⟩ := Int.eq_ofNat_of_zero_le xe0
      obtain ⟨f, rfl⟩ := Int.eq_ofNat_of_zero_le xf0
      obtain ⟨g, rfl⟩ := Int.eq_ofNat_of_zero_le xg0
      exact ⟨by walk_at "lim", hK _ ⟨a, b, c, d, e, f, g, by omega, rfl⟩⟩
    rintro δ ⟨a, b, c, d, e, f, g, hlt, rfl⟩
    obtain ⟨ha, hb, hc, hd, he, hf, hg⟩ := hlt
    have M := mon_of I
    have nz : ∀ k, natD k = .int (k : Nat) := fun _ => rfl
    refine seq_gen (fun δ => δ = [some .cask, some (.d (rowD l)), some (.d (.int (a : Nat))), some (.d (.int (b : Nat))), some (.d (.int (c : Nat))), some (.d (.int (d : Nat))), some (.d (.int (e : Nat))), some (.d (.int (f : Nat))), some (.d (.int (g : Nat))), none, some (.d (.int (nd l [a, b] : Nat))), some (.d (.int (nd l [a, b, c] : Nat))), none, none, none, none]) ?_ fun K hK => ?_
    rotate_left
    · walk_at "dx"
      refine ask_few I (ks := [a, b]) rfl (by simp) (by simp [ha, hb, hc, hd, he, hf, hg]) ?_
      refine ask_few I (ks := [a, b, c]) rfl (by simp) (by simp [ha, hb, hc, hd, he, hf, hg]) ?_
      exact ⟨rfl, rfl, hK _ rfl⟩
    rintro δ rfl
    refine seq_gen (fun δ => δ = [some .cask, some (.d (rowD l)), some (.d (.int (a : Nat))), some (.d (.int (b : Nat))), some (.d (.int (c : Nat))), some (.d (.int (d : Nat))), some (.d (.int (e : Nat))), some (.d (.int (f : Nat))), some (.d (.int (g : Nat))), none, some (.d (.int (nd l [a, b] : Nat))), some (.d (.int (nd l [a, b, c] : Nat))), some (.own [natD (nd l []), natD (nd l [a]), natD (nd l [a, b]), natD (nd l [a, b, c]), natD (nd l [a, b, c, d])]), none, none, none]) ?_ fun K hK => ?_
    rotate_left
    · walk_at "dx"
      refine ask_few I (ks := []) rfl (by simp) (by simp) ?_
      refine ask_few I (ks := [a]) rfl (by simp) (by simp [ha, hb, hc, hd, he, hf, hg]) ?_
      refine ask_few I (ks := [a, b, c, d]) rfl (by simp) (by simp [ha, hb, hc, hd, he, hf, hg]) ?_
      walk_at "dx"
      exact ⟨by walk_at "lim", hK _ rfl⟩
    rintro δ rfl
    refine seq_gen (fun δ => δ = [some .cask, some (.d (rowD l)), some (.d (.int (a : Nat))), some (.d (.int (b : Nat))), some (.d (.int (c : Nat))), some (.d (.int (d : Nat))), some (.d (.int (e : Nat))), some (.d (.int (f : Nat))), some (.d (.int (g : Nat))), none, some (.d (.int (nd l [a, b] : Nat))), some (.d (.int (nd l [a, b, c] : Nat))), some (.own [natD (nd l []), natD (nd l [a]), natD (nd l [a, b]), natD (nd l [a, b, c]), natD (nd l [a, b, c, d]), natD (nd l [a, b, c, d, e]), natD (nd l [a, b, c, d, e, f, g])]), none, none, none]) ?_ fun K hK => ?_
    rotate_left
    · rw [show (mCons (mVar 1) (mCons (mVar 2) (mCons (mVar 3) (mCons (mVar 4) (mCons (mVar 5) (mCons (mVar 6) mNil)))))) = mVars [1, 2, 3, 4, 5, 6] from rfl, show (mCons (mVar 1) (mCons (mVar 2) (mCons (mVar 3) (mCons (mVar 4) (mCons (mVar 5) (mCons (mVar 6) (mCons (mVar 7) (mCons (mVar 8) mNil)))))))) = mVars [1, 2, 3, 4, 5, 6, 7, 8] from rfl]
      simp only [mAsg, mBin, mLst, mCons, mNil]
      have hv : ∀ {ex : XD} {R : DV → Prop}, R (.bor [natD (nd l []), natD (nd l [a]), natD (nd l [a, b]), natD (nd l [a, b, c]), natD (nd l [a, b, c, d])]) → mVar 12 ex [some .cask, some (.d (rowD l)), some (.d (.int (a : Nat))), some (.d (.int (b : Nat))), some (.d (.int (c : Nat))), some (.d (.int (d : Nat))), some (.d (.int (e : Nat))), some (.d (.int (f : Nat))), some (.d (.int (g : Nat))), none, some (.d (.int (nd l [a, b] : Nat))), some (.d (.int (nd l [a, b, c] : Nat))), some (.own [natD (nd l []), natD (nd l [a]), natD (nd l [a, b]), natD (nd l [a, b, c]), natD (nd l [a, b, c, d])]), none, none, none] R := fun h => h
      refine hv ?_
      refine calls_vars (δ := [some .cask, some (.d (rowD l)), some (.d (.int (a : Nat))), some (.d (.int (b : Nat))), some (.d (.int (c : Nat))), some (.d (.int (d : Nat))), some (.d (.int (e : Nat))), some (.d (.int (f : Nat))), some (.d (.int (g : Nat))), none, some (.d (.int (nd l [a, b] : Nat))), some (.d (.int (nd l [a, b, c] : Nat))), some (.own [natD (nd l []), natD (nd l [a]), natD (nd l [a, b]), natD (nd l [a, b, c]), natD (nd l [a, b, c, d])]), none, none, none]) [1, 2, 3, 4, 5, 6] (rowD l :: [a, b, c, d, e].map natD) (by rfl) ?_
      refine ask_few I (ks := [a, b, c, d, e]) rfl (by simp) (by simp [ha, hb, hc, hd, he, hf, hg]) ?_
      refine calls_vars (δ := [some .cask, some (.d (rowD l)), some (.d (.int (a : Nat))), some (.d (.int (b : Nat))), some (.d (.int (c : Nat))), some (.d (.int (d : Nat))), some (.d (.int (e : Nat))), some (.d (.int (f : Nat))), some (.d (.int (g : Nat))), none, some (.d (.int (nd l [a, b] : Nat))), some (.d (.int (nd l [a, b, c] : Nat))), some (.own [natD (nd l []), natD (nd l [a]), natD (nd l [a, b]), natD (nd l [a, b, c]), natD (nd l [a, b, c, d])]), none, none, none]) [1, 2, 3, 4, 5, 6, 7, 8] (rowD l :: [a, b, c, d, e, f, g].map natD) (by rfl) ?_
      refine ask_few I (ks := [a, b, c, d, e, f, g]) rfl (by simp) (by simp [ha, hb, hc, hd, he, hf, hg]) ?_
      walk_at "dx"
      exact ⟨by walk_at "lim", by walk_at "lim", hK _ rfl⟩
    rintro δ rfl
    refine seq_gen (fun δ => δ = [some .cask, some (.d (rowD l)), some (.d (.int (a : Nat))), some (.d (.int (b : Nat))), some (.d (.int (c : Nat))), some (.d (.int (d : Nat))), some (.d (.int (e : Nat))), some (.d (.int (f : Nat))), some (.d (.int (g : Nat))), none, some (.d (.int (nd l [a, b] : Nat))), some (.d (.int (nd l [a, b, c] : Nat))), some (.own [natD (nd l []), natD (nd l [a]), natD (nd l [a, b]), natD (nd l [a, b, c]), natD (nd l [a, b, c, d]), natD (nd l [a, b, c, d, e]), natD (nd l [a, b, c, d, e, f, g])]), some (.own [natD (nd l []), natD (nd l [a]), natD (nd l [a, b]), natD (nd l [a, b, c]), natD (nd l [a, b, c, d]), natD (nd l [a, b, c, d, e]), natD (nd l [a, b, c, d, e, f, g])]), none, none]) ?_ fun K hK => ?_
    rotate_left
    · walk_at "dx"
      refine ⟨by walk_at "lim", ?_⟩
      refine lc_ind (onInt fun i => some (natD (nd l ([a, b, c, d, e, f, g].take i.toNat)))) _ _ (fun x hx K1 K0 q1 q0 => ?_) (by simp only [List.length_cons, List.length_nil]; walk_at "lim") ?_
      · simp only [List.mem_cons, List.not_mem_nil, or_false] at hx
        obtain ⟨k, rfl⟩ : ∃ k : Nat, x = .int (k : Nat) := by
          rcases hx with rfl | rfl | rfl | rfl | rfl | rfl | rfl
          · exact ⟨0, rfl⟩
          · exact ⟨1, rfl⟩
          · exact ⟨2, rfl⟩
          · exact ⟨3, rfl⟩
          · exact ⟨4, rfl⟩
          · exact ⟨5, rfl⟩
          · exact ⟨7, rfl⟩
        walk_at "dx"
        rw [show [PyData.int (a : Nat), .int (b : Nat), .int (c : Nat), .int (d : Nat), .int (e : Nat), .int (f : Nat), .int (g : Nat)] = [a, b, c, d, e, f, g].map natD from rfl, cut_pre (by omega), Int.toNat_natCast, ← List.map_take]
        refine ⟨by walk_at "lim", l, [a, b, c, d, e, f, g].take k, rfl, hB, ?_, fun y hy => ?_, ?_⟩
        · rw [List.length_take]
          exact Nat.le_trans (Nat.min_le_right _ _) (show 7 ≤ 1000 by decide)
        · have := List.mem_of_mem_take hy
          exact (show ∀ y ∈ [a, b, c, d, e, f, g], y < l.length by simp [ha, hb, hc, hd, he, hf, hg]) y this
        · exact q1 _ (take_on (F := nd l))
      · rw [takes_of (F := nd l), List.nil_append]
        exact ⟨rfl, hK _ rfl⟩
    rintro δ rfl
    have hAlk : ∀ ks : List Nat, ks.length ≤ 1000 → Alk 4 (.list (ks.map natD)) := fun ks hk => ⟨by rw [List.length_map]; exact hk, fun x hx => by
      obtain ⟨k, _, rfl⟩ := List.mem_map.mp hx
      trivial⟩
    have hAll : ∀ ks : List Nat, (∀ k ∈ ks, k < l.length) → ∀ k ∈ srtN ks, k < l.length := fun ks h k hk => h k (srt_mem.mp hk)
    have h1 : nd l [a] = 1 := by
      unfold nd
      rw [show srtN [a] = [a] from (srt_of (.refl _) (by simp)).symm]
      unfold needF
      rw [if_pos (Nat.zero_le _)]
      rfl
    have h2 : nd l [a] ≤ nd l [a, b] := (need_more M (ks := [a]) (x := b) (by simp [ha]) hb).1
    have h3 := need_more M (ks := [a, b]) (x := c) (by simp [ha, hb]) hc
    have h3a : nd l [a, b] ≤ nd l [a, b, c] := h3.1
    have h3b : nd l [a, b, c] ≤ nd l [a, b] + 1 := h3.2
    have h4 : nd l [a, b, c] ≤ fewN l := need_le_gr M (srtN [a, b, c]) 0 srt_asc (hAll _ (by simp [ha, hb, hc])) l.length (by omega)
    have h5 : nd l [b, a] = nd l [a, b] := by unfold nd; rw [srt_swap (List.Perm.swap a b [])]
    have h6 : nd l [c, a, b] = nd l [a, b, c] := by
      unfold nd
      rw [srt_swap (show [c, a, b].Perm [a, b, c] from (List.perm_append_comm (l₁ := [c]) (l₂ := [a, b])))]
    have h7 : nd l [a, a] = 1 := by
      have := need_dup M (srtN [a, a]) [a] 0 srt_asc (by simp) (fun x => by rw [srt_mem]; simp) (hAll _ (by simp [ha]))
      unfold nd
      rw [this]
      unfold needF
      rw [if_pos (Nat.zero_le _)]
      rfl
    refine seq_gen (fun δ => ∃ a12 a13 : Option DV, δ = [some .cask, some (.d (rowD l)), some (.d (.int (a : Nat))), some (.d (.int (b : Nat))), some (.d (.int (c : Nat))), some (.d (.int (d : Nat))), some (.d (.int (e : Nat))), some (.d (.int (f : Nat))), some (.d (.int (g : Nat))), none, some (.d (.int (nd l [a, b] : Nat))), some (.d (.int (nd l [a, b, c] : Nat))), a12, a13, none, none]) ?_ fun K hK => ?_
    rotate_left
    · walk_at "dx"
      refine ⟨_, rfl, hAlk [nd l [], nd l [a], nd l [a, b], nd l [a, b, c], nd l [a, b, c, d], nd l [a, b, c, d, e], nd l [a, b, c, d, e, f, g]] (by simp), ?_⟩
      walk_at "dx"
      refine ask_few I (ks := [b, a]) rfl (by simp) (by simp [ha, hb, hc, hd, he, hf, hg]) ?_
      rw [h5, nz]
      walk_at "dx"
      refine ⟨fun z => absurd trivial z, ?_⟩
      refine ask_few I (ks := [c, a, b]) rfl (by simp) (by simp [ha, hb, hc, hd, he, hf, hg]) ?_
      rw [h6, nz]
      walk_at "dx"
      exact ⟨fun z => absurd trivial z, hK _ ⟨_, _, rfl⟩⟩
    rintro δ ⟨a12, a13, rfl⟩
    refine seq_gen (fun δ => δ = [some .cask, some (.d (rowD l)), some (.d (.int (a : Nat))), some (.d (.int (b : Nat))), some (.d (.int (c : Nat))), some (.d (.int (d : Nat))), some (.d (.int (e : Nat))), some (.d (.int (f : Nat))), some (.d (.int (g : Nat))), none, some (.d (.int (nd l [a, b] : Nat))), some (.d (.int (nd l [a, b, c] : Nat))), a12, a13, none, none]) ?_ fun K hK => ?_
    rotate_left
    · walk_at "dx"
      refine ⟨fun _ => ⟨fun _ => ⟨fun z => absurd (by omega) z, fun _ => ?_⟩, fun z => absurd (by omega) z⟩, fun z => absurd (by omega) z⟩
      refine ⟨l, rfl, I, ?_⟩
      rw [nz]
      walk_at "dx"
      refine ⟨fun z => absurd z (by omega), fun _ => ?_⟩
      refine ask_few I (ks := [a, a]) rfl (by simp) (by simp [ha]) ?_
      rw [h7, nz]
      walk_at "dx"
      first | exact hK _ rfl | exact ⟨fun z => absurd trivial z, hK _ rfl⟩ | exact ⟨fun z => absurd rfl z, fun _ => hK _ rfl⟩ | exact ⟨fun z => absurd trivial z, fun _ => hK _ rfl⟩
    rintro δ rfl
    walk_at "dx"
    rw [show [PyData.int (a : Nat), .int (b : Nat), .int (c : Nat)] = ([a, b, c].map fun k : Nat => (k : Int)).map .int from rfl, intsOf_map]
    dsimp only
    refine ⟨by walk_at "lim", by rw [List.length_map]; show 3 ≤ 4000; decide, ⟨[a, b, c].map fun k : Nat => (k : Int), by rw [List.length_map]; show 3 < 64; decide, fun k hk => hk⟩, fun ms hms hmem => ?_⟩
    obtain ⟨D, rfl⟩ : ∃ D : List Nat, ms = D.map fun k : Nat => (k : Int) := ⟨ms.map Int.toNat, by
      rw [List.map_map]
      conv => lhs; rw [← List.map_id ms]
      exact List.map_congr_left fun k hk => by
        obtain ⟨z, _, rfl⟩ := List.mem_map.mp ((hmem k).mp hk)
        rfl⟩
    rw [← natInts]
    have hD : D.Pairwise (· < ·) := (List.pairwise_map.mp hms).imp fun h => by omega
    have hDm : ∀ x, x ∈ srtN [a, b, c] ↔ x ∈ D := fun x => by
      rw [srt_mem]
      have := hmem (x : Nat)
      simp only [List.mem_map, Int.natCast_inj, exists_eq_right] at this
      exact this.symm
    have hDl : ∀ x ∈ D, x < l.length := fun x hx => hAll _ (by simp [ha, hb, hc]) x ((hDm x).mpr hx)
    have hDn : D.length ≤ 1000 := by
      have h1 : D.length ≤ l.length := nodup_le (hD.imp fun h => by omega) hDl
      omega
    refine ⟨l, _, rfl, I, fun xs e => by cases e; rw [List.length_map]; exact hDn, ?_⟩
    have ev : apartV l (.tuple (D.map natD)) = apartB l D := by
      unfold apartV
      simp only [bad_nats hDl, List.map_map]
      congr 1
      exact List.map_id'' (fun k => Int.toNat_natCast k) D
    rw [ev]
    walk_at "dx"
    refine ⟨fun z => h, fun hz => ?_⟩
    have e1 : nd l [a, b, c] = D.length := by
      unfold nd
      rw [need_dup M (srtN [a, b, c]) D 0 srt_asc hD hDm (hAll _ (by simp [ha, hb, hc]))]
      exact need_apart I D 0 hDl hz fun x _ => Nat.zero_le _
    rw [List.length_map, e1, decide_eq_true rfl]
    exact h)).le (by decide +kernel)
theorem grc_ge {l : SRow} {i : Nat} {cs : List (Nat × Bool)} {ds : List Nat} (I : Inc l) (h : GrC l i cs ds) : ∀ x ∈ ds, i ≤ x ∧ x < l.length := by
  induction h with
  | nil _ => exact fun x hx => by cases hx
  | cons hi _ _ ih =>
    intro x hx
    rcases List.mem_cons.mp hx with rfl | hx
    · exact ⟨Nat.le_refl _, hi⟩
    · have := ih x hx
      have := far_own I hi
      omega
theorem gr_bd {f : Nat → Nat} {n : Nat} (h : ∀ i, i < n → i ≤ f i) : ∀ F i, gr f n F i ≤ n - i
  | 0, i => Nat.zero_le _
  | F + 1, i => by
    unfold gr
    split
    · rename_i c
      have := gr_bd h F (f i + 1)
      have := h i c
      omega
    · exact Nat.zero_le _
theorem few_pos {l : SRow} (I : Inc l) : 1 ≤ fewN l ∧ fewN l ≤ l.length := by
  have h0 := I.n0
  have hb := gr_bd (f := farE l) (n := l.length) (fun i hi => far_own I hi) l.length 0
  unfold fewN
  obtain ⟨m, hm⟩ : ∃ m, l.length = m + 1 := ⟨l.length - 1, by omega⟩
  refine ⟨?_, by omega⟩
  have e : ∀ k, gr (farE l) l.length (k + 1) 0 = 1 + gr (farE l) l.length k (farE l 0 + 1) := fun k => by
    conv => lhs; unfold gr
    rw [if_pos h0]
  have := e m
  rw [← hm] at this
  omega
theorem nat_list {ms : List Int} (h : ∀ k ∈ ms, 0 ≤ k) : ∃ D : List Nat, ms = D.map fun k : Nat => (k : Int) := ⟨ms.map Int.toNat, by
  rw [List.map_map]
  conv => lhs; rw [← List.map_id ms]
  exact List.map_congr_left fun k hk => (Int.toNat_of_nonneg (h k hk)).symm⟩
theorem rangeN {n : Nat} : rangeD 0 n = (List.range n).map natD := by
  unfold rangeD
  exact List.map_congr_left fun i _ => by show PyData.int _ = PyData.int _; rw [Int.zero_add]
theorem cask_ok {K : PySem.W.Frag} {F0 H : Hp} {c : Addr} {n lim : Nat} (hC : BagAt c n H) : Gm.Ok ⟨K, F0, H, fun p => p = c, .ref c, BagAt c, n, lim⟩ := by
  have full : ∀ {n : Nat} {H : Hp}, BagAt c n H → ∀ p, p = c → H p ≠ none := fun h p q z => by
    obtain ⟨m, gs, d, h1, _⟩ := h
    rw [q, h1] at z; cases z
  refine ⟨fun n H H' h e _ => ?_, fun n k H hnk h => ?_, fun n H h p q => full (n := n) h p q, fun p q => full (n := n) hC p q⟩
  · obtain ⟨m, gs, d, h1, h2⟩ := h
    exact ⟨m, gs, d, by rw [e c rfl]; exact h1, h2⟩
  · obtain ⟨m, gs, d, h1, h2, h3, h4, h5⟩ := h
    exact ⟨m, gs, d, h1, h2, h3, h4, by omega⟩
theorem nb_cask (n i : Nat) : NoBor ((List.replicate n (none : Option DV)).set i (some .cask) ++ []) := fun j x e => by
  rw [List.append_nil] at e
  rcases get_set e with ⟨_, q, _⟩ | ⟨_, q⟩
  · cases q; rfl
  · rw [List.getElem?_replicate] at q
    split at q <;> cases q
theorem d_law {f : Addr} {fd : FuncData} (T : Txt K mg) (F0 : L2.Fun K "law" "law" s_law f fd) (F__law_opened : DBag P w K mg base) (F__law_stones : DFn P w K mg base CK "_law_stones" 2 323 3 mf__law_stones) (F_cover_certificate : DFn P w K mg base CK "cover_certificate" 5 0 1 mf_cover_certificate) (F__law_growing_right : DFn P w K mg base CK "_law_growing_right" 7 0 2 mf__law_growing_right) (F__law_some_right : DFn P w K mg base CK "_law_some_right" 7 7 2 mf__law_some_right) (F_fewest_for : DFnS P w K mg base CK "fewest_for" 5 0 mf_fewest_for) (F_fewest_pushes : DFn P w K mg base CK "fewest_pushes" 6 0 1 mf_fewest_pushes) (F__law_take : DFn P w K mg base CK "_law_take" 1 1 2 mf__law_take) : FnG P w K mg base 8 f fd ["_law_script"] (spLaw K) := by
  obtain ⟨fc, fdc, psc, hmc, hkc, hbc, hnc, hFc⟩ := F__law_opened.ex
  refine fnG_of F0 sc_law (fun vs H Q E h => ?_) fun cdv A outer s H vs Q E hg hr h => ?_
  · obtain ⟨a, ns, rfl, _⟩ := h
    rfl
  · obtain ⟨a, ns, rfl, hl, hS, k⟩ := h
    have cx : DL.Ctx (cxOf (L2.CX P w) P w K mg base ["_law_script", "_law_bag", "_law_turn", "_law_row", "_law_again", "_law_spread", "_law_numbers"] "law" (defScope s_law) f cdv A outer s H E) ⟨fun _ _ _ _ => False, CK⟩ 7 := ⟨hg, hr, takes0⟩
    refine ⟨_, pss_cons (ps_set (i := 1) sc_law.nd rfl (by first | exact Or.inl rfl | exact Or.inr rfl) (pe_callG hg hr takes0 hFc (by decide) hmc hkc hbc (by rfl) (pa_cons (pv 0) pa_nil)))
      (DSs.pss (W := ⟨fun _ _ _ _ => False, CK⟩)
 (dss_cons (ds_forN 3 (Ctx.passes rfl) (by rfl) (di_range1 (by rfl) T.n_range (da_cons de_int da_nil)) (dg_name (i := 2) sc_law.nd rfl (by first | exact Or.inl rfl | exact Or.inr rfl)) (dss_cons (ds_set (i := 3) sc_law.nd rfl (by first | exact Or.inl rfl | exact Or.inr rfl) (de_call cx F__law_stones (by decide) (by rfl) (da_cons (de_pv 1) (da_cons (de_ix (de_lst (da_cons de_int (da_cons de_int (da_cons de_int da_nil)))) (de_pv 2)) (da_cons (de_mul de_int (de_pow de_int de_int)) da_nil)))))
 (dss_cons (ds_forN 3 (Ctx.passes rfl) (by rfl) (di_range1 (by rfl) T.n_range (da_cons de_int da_nil)) (dg_name (i := 4) sc_law.nd rfl (by first | exact Or.inl rfl | exact Or.inr rfl)) (dss_one (ds_if (dt_not (dt_val (de_call cx F__law_some_right (by decide) (by rfl) (da_cons (de_pv 1) (da_cons (de_pv 3) da_nil))))) (dss_one (ds_ret de_bl)) dss_nil)))
 (dss_cons (ds_set (i := 5) sc_law.nd rfl (by first | exact Or.inl rfl | exact Or.inr rfl) (de_ix (de_call cx F_cover_certificate (by decide) (by rfl) (da_cons (de_pv 3) da_nil)) de_int))
 (dss_cons (ds_if (DW.dt (dw_and (dt_gt (de_len (by rfl) T.n_len (da_cons (de_pv 5) da_nil)) de_int) (dw_and1 (dt_ne cx.u (de_callSt cx F_fewest_for (by decide) (by rfl) (da_cons (de_pv 3) (da_cons (de_ix (de_pv 5) de_int) (da_cons (de_ix (de_pv 5) (de_neg de_int)) da_nil)))) de_int)))) (dss_one (ds_ret de_bl)) dss_nil)
 (dss_cons (ds_set (i := 6) sc_law.nd rfl (by first | exact Or.inl rfl | exact Or.inr rfl) (de_listR1 (by rfl) (by rfl) T.n_list (by rfl) T.n_range (de_add (de_len (by rfl) T.n_len (da_cons (de_pv 3) da_nil)) de_int)))
 (dss_cons (ds_if (dt_eq cx.u (de_pv 2) de_int) (dss_one (ds_set (i := 6) sc_law.nd rfl (by first | exact Or.inl rfl | exact Or.inr rfl) (de_sortSetL (by rfl) (by rfl) T.n_sorted (by rfl) T.n_set (da_cons (de_lst (da_cons de_int (da_cons de_int (da_cons (de_call cx F_fewest_pushes (by decide) (by rfl) (da_cons (de_pv 3) da_nil)) (da_cons (de_call cx F__law_take (by decide) (by rfl) (da_cons (de_pv 1) (da_cons (de_call cx F_fewest_pushes (by decide) (by rfl) (da_cons (de_pv 3) da_nil)) da_nil))) (da_cons (de_len (by rfl) T.n_len (da_cons (de_pv 3) da_nil)) da_nil)))))) da_nil)))) dss_nil)
 (dss_one (ds_frz 6 (ds_if (dt_not (dt_val (de_call cx F__law_growing_right (by decide) (by rfl) (da_cons (de_pv 3) (da_cons (de_pv 6) da_nil))))) (dss_one (ds_ret de_bl)) dss_nil))))))))))
 (dss_one (ds_ret de_bl)))), ?_⟩
    refine ⟨.ref a, rfl, a, ns, rfl, hl, hS, fun c H' hC => ?_⟩
    refine ⟨fun _ _ => False, ⟨K, fun _ => none, H', fun p => p = c, .ref c, BagAt c, 0, 2 ^ 40⟩, fun _ => none, (List.replicate 7 none).set 1 (some .cask), [], [], ⟨fun _ => False, fun r => r = .d (.bool true), fun _ => False, fun _ => False⟩,
      ⟨rfl, by simp [L2.start], rfl, ?_, fun _ _ _ _ _ _ _ _ _ _ _ _ _ _ z => z.elim, ⟨c, rfl, rfl, rfl, rfl⟩, by first | exact Nat.le_of_ble_eq_true rfl | decide +kernel⟩, nb_cask _ _, ⟨fun _ z => z.elim, fun _ z => z.elim, fun _ z => z.elim, fun r hr' _ b v F2 H2 _ g => ?_⟩, ?_⟩
    · have g := good_cask (G := ⟨K, fun _ => none, H', fun p => p = c, .ref c, BagAt c, 0, 2 ^ 40⟩) (H := H') (i := 1) (σ := (L2.start ["_law_script", "_law_bag", "_law_turn", "_law_row", "_law_again", "_law_spread", "_law_numbers"] [.ref a]).set 1 (some (.ref c))) (cask_ok hC) rfl rfl hC rfl
      simpa [L2.start] using g
    · cases hr'
      obtain ⟨v', e1, h1⟩ := g.sl 0 _ rfl
      cases e1
      have h2 : At K F2 v (.bool true) := h1
      cases h2
      exact k H2
    · exact (by
      walk_at "dx"
      refine ⟨by decide, by decide, by decide, ?_⟩
      refine for_range (fun _ δ => ∃ (a2 a3 a4 a5 a6 : Option DV), δ = [none, some .cask, a2, a3, a4, a5, a6]) ⟨_, _, _, _, _, rfl⟩ ?_ ?_
      · rintro δ ⟨a2, a3, a4, a5, a6, rfl⟩
        walk_at "dx"
      · rintro k δ Kn hk ⟨a2, a3, a4, a5, a6, rfl⟩ hK
        have hk : k < 3 := hk
        obtain ⟨z, h1, hz0, hz1⟩ : ∃ z : Int, atI [PyData.int 40, .int 16, .int 8] (k : Nat) = some (.int z) ∧ 0 < z ∧ z ≤ 64 := by
          have : k = 0 ∨ k = 1 ∨ k = 2 := by omega
          rcases this with rfl | rfl | rfl
          · exact ⟨40, rfl, by decide, by decide⟩
          · exact ⟨16, rfl, by decide, by decide⟩
          · exact ⟨8, rfl, by decide, by decide⟩
        rw [show (0 : Int) + (k : Nat) = (k : Nat) from Int.zero_add _]
        refine ⟨rfl, by simp, ?_⟩
        change mSeq _ _ _ _ [none, some .cask, some (.d (.int (k : Nat))), a3, a4, a5, a6]
        refine seq_gen (fun δ => ∃ row, RowC row ∧ δ = [none, some .cask, some (.d (.int (k : Nat))), some (.d (rowD row)), a4, a5, a6]) ?_ fun K hK => ?_
        rotate_left
        · walk_at "dx"
          rw [h1]
          walk_at "dx"
          refine ⟨by walk_at "lim", .inl ⟨by decide, by decide⟩, z, _, rfl, hz0, hz1, by decide, by decide, fun row hB _ => ?_⟩
          exact ⟨rfl, hK _ ⟨row, hB, rfl⟩⟩
        rintro δ ⟨row, hB, rfl⟩
        have I := hB.i
        have hr0 := I.n0
        have hr64 := hB.n
        obtain ⟨hf1, hf2⟩ := few_pos I
        have hlen : oLen (.d (rowD row)) = fun R => R (.d (.int row.length)) := by
          unfold rowD
          funext R
          walk_at "dx"
          rw [List.length_map]
        refine seq_gen (fun δ => ∃ a4 : Option DV, δ = [none, some .cask, some (.d (.int (k : Nat))), some (.d (rowD row)), a4, a5, a6]) ?_ fun K hK => ?_
        rotate_left
        · walk_at "dx"
          refine ⟨by decide, by decide, by decide, ?_⟩
          refine for_range (fun _ δ => ∃ a4 : Option DV, δ = [none, some .cask, some (.d (.int (k : Nat))), some (.d (rowD row)), a4, a5, a6]) ⟨_, rfl⟩ (fun δ h => hK δ h) ?_
          rintro m δ K2 hm ⟨a4, rfl⟩ hK2
          walk_at "dx"
          refine ⟨row, rfl, hB, ?_⟩
          walk_at "dx"
          exact hK2 _ ⟨_, rfl⟩
        rintro δ ⟨a4, rfl⟩
        refine seq_gen (fun δ => ∃ cs ds, GrC row 0 cs ds ∧ δ = [none, some .cask, some (.d (.int (k : Nat))), some (.d (rowD row)), a4, some (.d (tupN ds)), a6]) ?_ fun K hK => ?_
        rotate_left
        · walk_at "dx"
          refine ⟨row, rfl, I, fun cs ds hg => ?_⟩
          walk_at "dx"
          exact hK _ ⟨cs, ds, hg, rfl⟩
        rintro δ ⟨cs, ds, hg, rfl⟩
        refine seq_gen (fun δ => δ = [none, some .cask, some (.d (.int (k : Nat))), some (.d (rowD row)), a4, some (.d (tupN ds)), a6]) ?_ fun K hK => ?_
        rotate_left
        · unfold tupN at hK ⊢
          walk_at "dx"
          rw [List.length_map]
          refine ⟨fun c => ?_, fun _ => hK _ rfl⟩
          cases hg with
          | nil _ => exact absurd c (by simp)
          | cons hi hp hg2 =>
            rename_i p cs' ds'
            cases hq : ds'.getLast? with
            | none =>
              have : ds' = [] := List.getLast?_eq_none_iff.mp hq
              subst this
              exact absurd c (by simp)
            | some x =>
              have hx := List.mem_of_getLast? hq
              have hxb := grc_ge I hg2 x hx
              have hlast : atI ((0 :: ds').map natD) (-1) = some (.int (x : Nat)) := atI_last (by
                rw [List.getLast?_map, List.getLast?_cons, hq]
                rfl)
              rw [show atI ((0 :: ds').map natD) 0 = some (.int (0 : Nat)) from atI_map (f := natD) 0 rfl rfl, hlast]
              walk_at "dx"
              refine ask_few I (ks := [0, x]) rfl (by simp) (by simp [hr0, hxb.2]) ?_
              have h2 : nd row [0, x] = 2 := by
                unfold nd
                rw [show srtN [0, x] = [0, x] from (srt_of (.refl _) (by simp)).symm]
                unfold needF
                rw [if_pos (Nat.le_refl _)]
                unfold needF
                rw [if_pos hxb.1]
                rfl
              rw [h2, show natD 2 = .int 2 from rfl]
              walk_at "dx"
              first | exact hK _ rfl | exact ⟨fun z => absurd trivial z, hK _ rfl⟩ | exact ⟨fun z => absurd rfl z, fun _ => hK _ rfl⟩ | exact ⟨fun z => absurd trivial z, fun _ => hK _ rfl⟩
        rintro δ rfl
        refine seq_gen (fun δ => ∃ ks : List Nat, 0 < ks.length ∧ ks.length ≤ 1000 ∧ (∀ k ∈ ks, k ≤ row.length) ∧ δ = [none, some .cask, some (.d (.int (k : Nat))), some (.d (rowD row)), a4, some (.d (tupN ds)), some (.own (ks.map natD))]) ?_ fun K hK => ?_
        rotate_left
        · walk_at "dx"
          rw [hlen]
          walk_at "dx"
          rw [show ((row.length : Nat) : Int) + 1 = ((row.length + 1 : Nat) : Int) by push_cast; rfl, Int.toNat_natCast, rangeN]
          refine ⟨⟨by omega, by omega, by omega, by omega, by omega⟩, hK _ ⟨_, by rw [List.length_range]; omega, by rw [List.length_range]; omega, fun k hk => by have := List.mem_range.mp hk; omega, rfl⟩⟩
        rintro δ ⟨ks, hk0, hk1, hks, rfl⟩
        refine seq_gen (fun δ => ∃ ks : List Nat, 0 < ks.length ∧ ks.length ≤ 1000 ∧ (∀ k ∈ ks, k ≤ row.length) ∧ δ = [none, some .cask, some (.d (.int (k : Nat))), some (.d (rowD row)), a4, some (.d (tupN ds)), some (.own (ks.map natD))]) ?_ fun K hK => ?_
        rotate_left
        · walk_at "dx"
          refine ⟨fun _ => ?_, fun _ => hK _ ⟨ks, hk0, hk1, hks, rfl⟩⟩
          refine ⟨row, rfl, I, ⟨row, rfl, I, ?_⟩⟩
          rw [show natD (fewN row) = .int (fewN row : Nat) from rfl]
          walk_at "dx"
          refine ⟨_, rfl, by omega, by omega, fun r r0 r1 => ?_⟩
          walk_at "dx"
          rw [hlen]
          walk_at "dx"
          rw [show [PyData.int 0, .int 1, .int (fewN row : Nat), .int r, .int (row.length : Nat)] = [(0 : Int), 1, (fewN row : Nat), r, (row.length : Nat)].map .int from rfl, intsOf_map]
          dsimp only
          refine ⟨by walk_at "lim", by simp, ⟨[(0 : Int), 1, (fewN row : Nat), r, (row.length : Nat)], by simp, fun k hk => hk⟩, fun ms hms hmem => ?_⟩
          have hall : ∀ k ∈ ms, 0 ≤ k ∧ k ≤ row.length := fun k hk => by
            have := (hmem k).mp hk
            simp only [List.mem_cons, List.not_mem_nil, or_false] at this
            omega
          obtain ⟨D, rfl⟩ := nat_list fun k hk => (hall k hk).1
          have hD : D.Pairwise (· < ·) := (List.pairwise_map.mp hms).imp fun h => by omega
          have hDb : ∀ x ∈ D, x ≤ row.length := fun x hx => by
            have := (hall _ (List.mem_map.mpr ⟨x, hx, rfl⟩)).2
            omega
          have hDn : D.length ≤ row.length + 1 := nodup_le (hD.imp fun h => by omega) fun x hx => by have := hDb x hx; omega
          have hD0 : 0 < D.length := by
            have := (hmem 0).mpr (by simp)
            obtain ⟨x, hx, _⟩ := List.mem_map.mp this
            exact List.length_pos_of_mem hx
          rw [← natInts]
          exact hK _ ⟨D, hD0, by omega, hDb, rfl⟩
        rintro δ ⟨ks, hk0, hk1, hks, rfl⟩
        walk_at "dx"
        refine ⟨row, ks, rfl, hB, hk0, hk1, hks, ?_⟩
        walk_at "dx"
        exact hK _ ⟨_, _, _, _, _, rfl⟩)
end
theorem all_mk {l : PySem.W.OpenLaw} {w : World} {K : PySem.W.Frag} {h : Heap} {mg : Str → Option Value} {fa : Addr} (X : K.In h) (G : h.Ns mainGlobals mg) (hfa : mg "law" = some (.ref fa))
    {f0 : Addr} {od0 an0 : Option Addr} {sl0 : Array (Option Value)} {oc0 kV0 dc0 pm0 cd0 ct0 : Value}
    {f1 : Addr} {od1 an1 : Option Addr} {sl1 : Array (Option Value)} {oc1 kV1 dc1 pm1 cd1 ct1 : Value}
    {f2 : Addr} {od2 an2 : Option Addr} {sl2 : Array (Option Value)} {oc2 kV2 dc2 pm2 cd2 ct2 : Value}
    {f3 : Addr} {od3 an3 : Option Addr} {sl3 : Array (Option Value)} {oc3 kV3 dc3 pm3 cd3 ct3 : Value}
    {f4 : Addr} {od4 an4 : Option Addr} {sl4 : Array (Option Value)} {oc4 kV4 dc4 pm4 cd4 ct4 : Value}
    {f5 : Addr} {od5 an5 : Option Addr} {sl5 : Array (Option Value)} {oc5 kV5 dc5 pm5 cd5 ct5 : Value}
    {f6 : Addr} {od6 an6 : Option Addr} {sl6 : Array (Option Value)} {oc6 kV6 dc6 pm6 cd6 ct6 : Value}
    {f7 : Addr} {od7 an7 : Option Addr} {sl7 : Array (Option Value)} {oc7 kV7 dc7 pm7 cd7 ct7 : Value}
    {f8 : Addr} {od8 an8 : Option Addr} {sl8 : Array (Option Value)} {oc8 kV8 dc8 pm8 cd8 ct8 : Value}
    {f9 : Addr} {od9 an9 : Option Addr} {sl9 : Array (Option Value)} {oc9 kV9 dc9 pm9 cd9 ct9 : Value}
    {f10 : Addr} {od10 an10 : Option Addr} {sl10 : Array (Option Value)} {oc10 kV10 dc10 pm10 cd10 ct10 : Value}
    {f11 : Addr} {od11 an11 : Option Addr} {sl11 : Array (Option Value)} {oc11 kV11 dc11 pm11 cd11 ct11 : Value}
    {f12 : Addr} {od12 an12 : Option Addr} {sl12 : Array (Option Value)} {oc12 kV12 dc12 pm12 cd12 ct12 : Value}
    {f13 : Addr} {od13 an13 : Option Addr} {sl13 : Array (Option Value)} {oc13 kV13 dc13 pm13 cd13 ct13 : Value}
    {f14 : Addr} {od14 an14 : Option Addr} {sl14 : Array (Option Value)} {oc14 kV14 dc14 pm14 cd14 ct14 : Value}
    {f15 : Addr} {od15 an15 : Option Addr} {sl15 : Array (Option Value)} {oc15 kV15 dc15 pm15 cd15 ct15 : Value}
    {f16 : Addr} {od16 an16 : Option Addr} {sl16 : Array (Option Value)} {oc16 kV16 dc16 pm16 cd16 ct16 : Value}
    {f17 : Addr} {od17 an17 : Option Addr} {sl17 : Array (Option Value)} {oc17 kV17 dc17 pm17 cd17 ct17 : Value}
    {f18 : Addr} {od18 an18 : Option Addr} {sl18 : Array (Option Value)} {oc18 kV18 dc18 pm18 cd18 ct18 : Value}
    {f19 : Addr} {od19 an19 : Option Addr} {sl19 : Array (Option Value)} {oc19 kV19 dc19 pm19 cd19 ct19 : Value}
    {f20 : Addr} {od20 an20 : Option Addr} {sl20 : Array (Option Value)} {oc20 kV20 dc20 pm20 cd20 ct20 : Value}
    {f21 : Addr} {od21 an21 : Option Addr} {sl21 : Array (Option Value)} {oc21 kV21 dc21 pm21 cd21 ct21 : Value}
    {f22 : Addr} {od22 an22 : Option Addr} {sl22 : Array (Option Value)} {oc22 kV22 dc22 pm22 cd22 ct22 : Value}
    {f23 : Addr} {od23 an23 : Option Addr} {sl23 : Array (Option Value)} {oc23 kV23 dc23 pm23 cd23 ct23 : Value}
    {f24 : Addr} {od24 an24 : Option Addr} {sl24 : Array (Option Value)} {oc24 kV24 dc24 pm24 cd24 ct24 : Value}
    {f25 : Addr} {od25 an25 : Option Addr} {sl25 : Array (Option Value)} {oc25 kV25 dc25 pm25 cd25 ct25 : Value}
    {f26 : Addr} {od26 an26 : Option Addr} {sl26 : Array (Option Value)} {oc26 kV26 dc26 pm26 cd26 ct26 : Value}
    (a0 : PySem.W.nsIn K mainGlobals "is_integer" = some (some (.ref f0))) (l0 : K.lookup f0 = some ⟨oc0, od0, .func (PySem.W.fnOf "is_integer" "is_integer" (defArgs s_is_integer) (defBody s_is_integer) (defScope s_is_integer) .none kV0 dc0 pm0 an0 cd0 ct0), sl0⟩) (c0 : PySem.W.codeIn K cd0 "is_integer" = true) (k0 : PySem.W.keepIn K (.ref f0) = true)
    (a1 : PySem.W.nsIn K mainGlobals "right_ends" = some (some (.ref f1))) (l1 : K.lookup f1 = some ⟨oc1, od1, .func (PySem.W.fnOf "right_ends" "right_ends" (defArgs s_right_ends) (defBody s_right_ends) (defScope s_right_ends) .none kV1 dc1 pm1 an1 cd1 ct1), sl1⟩) (c1 : PySem.W.codeIn K cd1 "right_ends" = true) (k1 : PySem.W.keepIn K (.ref f1) = true)
    (a2 : PySem.W.nsIn K mainGlobals "mirrored" = some (some (.ref f2))) (l2 : K.lookup f2 = some ⟨oc2, od2, .func (PySem.W.fnOf "mirrored" "mirrored" (defArgs s_mirrored) (defBody s_mirrored) (defScope s_mirrored) .none kV2 dc2 pm2 an2 cd2 ct2), sl2⟩) (c2 : PySem.W.codeIn K cd2 "mirrored" = true) (k2 : PySem.W.keepIn K (.ref f2) = true)
    (a3 : PySem.W.nsIn K mainGlobals "stretches" = some (some (.ref f3))) (l3 : K.lookup f3 = some ⟨oc3, od3, .func (PySem.W.fnOf "stretches" "stretches" (defArgs s_stretches) (defBody s_stretches) (defScope s_stretches) .none kV3 dc3 pm3 an3 cd3 ct3), sl3⟩) (c3 : PySem.W.codeIn K cd3 "stretches" = true) (k3 : PySem.W.keepIn K (.ref f3) = true)
    (a4 : PySem.W.nsIn K mainGlobals "spans_of" = some (some (.ref f4))) (l4 : K.lookup f4 = some ⟨oc4, od4, .func (PySem.W.fnOf "spans_of" "spans_of" (defArgs s_spans_of) (defBody s_spans_of) (defScope s_spans_of) .none kV4 dc4 pm4 an4 cd4 ct4), sl4⟩) (c4 : PySem.W.codeIn K cd4 "spans_of" = true) (k4 : PySem.W.keepIn K (.ref f4) = true)
    (a5 : PySem.W.nsIn K mainGlobals "far_ends" = some (some (.ref f5))) (l5 : K.lookup f5 = some ⟨oc5, od5, .func (PySem.W.fnOf "far_ends" "far_ends" (defArgs s_far_ends) (defBody s_far_ends) (defScope s_far_ends) .none kV5 dc5 pm5 an5 cd5 ct5), sl5⟩) (c5 : PySem.W.codeIn K cd5 "far_ends" = true) (k5 : PySem.W.keepIn K (.ref f5) = true)
    (a6 : PySem.W.nsIn K mainGlobals "are_apart" = some (some (.ref f6))) (l6 : K.lookup f6 = some ⟨oc6, od6, .func (PySem.W.fnOf "are_apart" "are_apart" (defArgs s_are_apart) (defBody s_are_apart) (defScope s_are_apart) .none kV6 dc6 pm6 an6 cd6 ct6), sl6⟩) (c6 : PySem.W.codeIn K cd6 "are_apart" = true) (k6 : PySem.W.keepIn K (.ref f6) = true)
    (a7 : PySem.W.nsIn K mainGlobals "fewest_for" = some (some (.ref f7))) (l7 : K.lookup f7 = some ⟨oc7, od7, .func (PySem.W.fnOf "fewest_for" "fewest_for" (defArgs s_fewest_for) (defBody s_fewest_for) (defScope s_fewest_for) .none kV7 dc7 pm7 an7 cd7 ct7), sl7⟩) (c7 : PySem.W.codeIn K cd7 "fewest_for" = true) (k7 : PySem.W.keepIn K (.ref f7) = true)
    (a8 : PySem.W.nsIn K mainGlobals "cover_certificate" = some (some (.ref f8))) (l8 : K.lookup f8 = some ⟨oc8, od8, .func (PySem.W.fnOf "cover_certificate" "cover_certificate" (defArgs s_cover_certificate) (defBody s_cover_certificate) (defScope s_cover_certificate) .none kV8 dc8 pm8 an8 cd8 ct8), sl8⟩) (c8 : PySem.W.codeIn K cd8 "cover_certificate" = true) (k8 : PySem.W.keepIn K (.ref f8) = true)
    (a9 : PySem.W.nsIn K mainGlobals "fewest_pushes" = some (some (.ref f9))) (l9 : K.lookup f9 = some ⟨oc9, od9, .func (PySem.W.fnOf "fewest_pushes" "fewest_pushes" (defArgs s_fewest_pushes) (defBody s_fewest_pushes) (defScope s_fewest_pushes) .none kV9 dc9 pm9 an9 cd9 ct9), sl9⟩) (c9 : PySem.W.codeIn K cd9 "fewest_pushes" = true) (k9 : PySem.W.keepIn K (.ref f9) = true)
    (a10 : PySem.W.nsIn K mainGlobals "check_index" = some (some (.ref f10))) (l10 : K.lookup f10 = some ⟨oc10, od10, .func (PySem.W.fnOf "check_index" "check_index" (defArgs s_check_index) (defBody s_check_index) (defScope s_check_index) .none kV10 dc10 pm10 an10 cd10 ct10), sl10⟩) (c10 : PySem.W.codeIn K cd10 "check_index" = true) (k10 : PySem.W.keepIn K (.ref f10) = true)
    (a11 : PySem.W.nsIn K mainGlobals "best_from" = some (some (.ref f11))) (l11 : K.lookup f11 = some ⟨oc11, od11, .func (PySem.W.fnOf "best_from" "best_from" (defArgs s_best_from) (defBody s_best_from) (defScope s_best_from) .none kV11 dc11 pm11 an11 cd11 ct11), sl11⟩) (c11 : PySem.W.codeIn K cd11 "best_from" = true) (k11 : PySem.W.keepIn K (.ref f11) = true)
    (a12 : PySem.W.nsIn K mainGlobals "most_felled" = some (some (.ref f12))) (l12 : K.lookup f12 = some ⟨oc12, od12, .func (PySem.W.fnOf "most_felled" "most_felled" (defArgs s_most_felled) (defBody s_most_felled) (defScope s_most_felled) .none kV12 dc12 pm12 an12 cd12 ct12), sl12⟩) (c12 : PySem.W.codeIn K cd12 "most_felled" = true) (k12 : PySem.W.keepIn K (.ref f12) = true)
    (a13 : PySem.W.nsIn K mainGlobals "_law_opened" = some (some (.ref f13))) (l13 : K.lookup f13 = some ⟨oc13, od13, .func (PySem.W.fnOf "_law_opened" "_law_opened" (defArgs s__law_opened) (defBody s__law_opened) (defScope s__law_opened) .none kV13 dc13 pm13 an13 cd13 ct13), sl13⟩) (c13 : PySem.W.codeIn K cd13 "_law_opened" = true) (k13 : PySem.W.keepIn K (.ref f13) = true)
    (a14 : PySem.W.nsIn K mainGlobals "_law_take" = some (some (.ref f14))) (l14 : K.lookup f14 = some ⟨oc14, od14, .func (PySem.W.fnOf "_law_take" "_law_take" (defArgs s__law_take) (defBody s__law_take) (defScope s__law_take) .none kV14 dc14 pm14 an14 cd14 ct14), sl14⟩) (c14 : PySem.W.codeIn K cd14 "_law_take" = true) (k14 : PySem.W.keepIn K (.ref f14) = true)
    (a15 : PySem.W.nsIn K mainGlobals "_law_stones" = some (some (.ref f15))) (l15 : K.lookup f15 = some ⟨oc15, od15, .func (PySem.W.fnOf "_law_stones" "_law_stones" (defArgs s__law_stones) (defBody s__law_stones) (defScope s__law_stones) .none kV15 dc15 pm15 an15 cd15 ct15), sl15⟩) (c15 : PySem.W.codeIn K cd15 "_law_stones" = true) (k15 : PySem.W.keepIn K (.ref f15) = true)
    (a16 : PySem.W.nsIn K mainGlobals "_law_right" = some (some (.ref f16))) (l16 : K.lookup f16 = some ⟨oc16, od16, .func (PySem.W.fnOf "_law_right" "_law_right" (defArgs s__law_right) (defBody s__law_right) (defScope s__law_right) .none kV16 dc16 pm16 an16 cd16 ct16), sl16⟩) (c16 : PySem.W.codeIn K cd16 "_law_right" = true) (k16 : PySem.W.keepIn K (.ref f16) = true)
    (a17 : PySem.W.nsIn K mainGlobals "_law_left" = some (some (.ref f17))) (l17 : K.lookup f17 = some ⟨oc17, od17, .func (PySem.W.fnOf "_law_left" "_law_left" (defArgs s__law_left) (defBody s__law_left) (defScope s__law_left) .none kV17 dc17 pm17 an17 cd17 ct17), sl17⟩) (c17 : PySem.W.codeIn K cd17 "_law_left" = true) (k17 : PySem.W.keepIn K (.ref f17) = true)
    (a18 : PySem.W.nsIn K mainGlobals "_law_pushes" = some (some (.ref f18))) (l18 : K.lookup f18 = some ⟨oc18, od18, .func (PySem.W.fnOf "_law_pushes" "_law_pushes" (defArgs s__law_pushes) (defBody s__law_pushes) (defScope s__law_pushes) .none kV18 dc18 pm18 an18 cd18 ct18), sl18⟩) (c18 : PySem.W.codeIn K cd18 "_law_pushes" = true) (k18 : PySem.W.keepIn K (.ref f18) = true)
    (a19 : PySem.W.nsIn K mainGlobals "_law_ends" = some (some (.ref f19))) (l19 : K.lookup f19 = some ⟨oc19, od19, .func (PySem.W.fnOf "_law_ends" "_law_ends" (defArgs s__law_ends) (defBody s__law_ends) (defScope s__law_ends) .none kV19 dc19 pm19 an19 cd19 ct19), sl19⟩) (c19 : PySem.W.codeIn K cd19 "_law_ends" = true) (k19 : PySem.W.keepIn K (.ref f19) = true)
    (a20 : PySem.W.nsIn K mainGlobals "_law_felled" = some (some (.ref f20))) (l20 : K.lookup f20 = some ⟨oc20, od20, .func (PySem.W.fnOf "_law_felled" "_law_felled" (defArgs s__law_felled) (defBody s__law_felled) (defScope s__law_felled) .none kV20 dc20 pm20 an20 cd20 ct20), sl20⟩) (c20 : PySem.W.codeIn K cd20 "_law_felled" = true) (k20 : PySem.W.keepIn K (.ref f20) = true)
    (a21 : PySem.W.nsIn K mainGlobals "_law_same" = some (some (.ref f21))) (l21 : K.lookup f21 = some ⟨oc21, od21, .func (PySem.W.fnOf "_law_same" "_law_same" (defArgs s__law_same) (defBody s__law_same) (defScope s__law_same) .none kV21 dc21 pm21 an21 cd21 ct21), sl21⟩) (c21 : PySem.W.codeIn K cd21 "_law_same" = true) (k21 : PySem.W.keepIn K (.ref f21) = true)
    (a22 : PySem.W.nsIn K mainGlobals "_law_best" = some (some (.ref f22))) (l22 : K.lookup f22 = some ⟨oc22, od22, .func (PySem.W.fnOf "_law_best" "_law_best" (defArgs s__law_best) (defBody s__law_best) (defScope s__law_best) .none kV22 dc22 pm22 an22 cd22 ct22), sl22⟩) (c22 : PySem.W.codeIn K cd22 "_law_best" = true) (k22 : PySem.W.keepIn K (.ref f22) = true)
    (a23 : PySem.W.nsIn K mainGlobals "_law_growing_right" = some (some (.ref f23))) (l23 : K.lookup f23 = some ⟨oc23, od23, .func (PySem.W.fnOf "_law_growing_right" "_law_growing_right" (defArgs s__law_growing_right) (defBody s__law_growing_right) (defScope s__law_growing_right) .none kV23 dc23 pm23 an23 cd23 ct23), sl23⟩) (c23 : PySem.W.codeIn K cd23 "_law_growing_right" = true) (k23 : PySem.W.keepIn K (.ref f23) = true)
    (a24 : PySem.W.nsIn K mainGlobals "_law_needed" = some (some (.ref f24))) (l24 : K.lookup f24 = some ⟨oc24, od24, .func (PySem.W.fnOf "_law_needed" "_law_needed" (defArgs s__law_needed) (defBody s__law_needed) (defScope s__law_needed) .none kV24 dc24 pm24 an24 cd24 ct24), sl24⟩) (c24 : PySem.W.codeIn K cd24 "_law_needed" = true) (k24 : PySem.W.keepIn K (.ref f24) = true)
    (a25 : PySem.W.nsIn K mainGlobals "_law_some_right" = some (some (.ref f25))) (l25 : K.lookup f25 = some ⟨oc25, od25, .func (PySem.W.fnOf "_law_some_right" "_law_some_right" (defArgs s__law_some_right) (defBody s__law_some_right) (defScope s__law_some_right) .none kV25 dc25 pm25 an25 cd25 ct25), sl25⟩) (c25 : PySem.W.codeIn K cd25 "_law_some_right" = true) (k25 : PySem.W.keepIn K (.ref f25) = true)
    (a26 : PySem.W.nsIn K mainGlobals "law" = some (some (.ref f26))) (l26 : K.lookup f26 = some ⟨oc26, od26, .func (PySem.W.fnOf "law" "law" (defArgs s_law) (defBody s_law) (defScope s_law) .none kV26 dc26 pm26 an26 cd26 ct26), sl26⟩) (c26 : PySem.W.codeIn K cd26 "law" = true) (k26 : PySem.W.keepIn K (.ref f26) = true)
    (z_abs : PySem.W.nsIn K mainGlobals "abs" = some none)
    (z_all : PySem.W.nsIn K mainGlobals "all" = some none)
    (z_any : PySem.W.nsIn K mainGlobals "any" = some none)
    (z_bool : PySem.W.nsIn K mainGlobals "bool" = some none)
    (z_enumerate : PySem.W.nsIn K mainGlobals "enumerate" = some none)
    (z_int : PySem.W.nsIn K mainGlobals "int" = some none)
    (z_isinstance : PySem.W.nsIn K mainGlobals "isinstance" = some none)
    (z_len : PySem.W.nsIn K mainGlobals "len" = some none)
    (z_list : PySem.W.nsIn K mainGlobals "list" = some none)
    (z_max : PySem.W.nsIn K mainGlobals "max" = some none)
    (z_min : PySem.W.nsIn K mainGlobals "min" = some none)
    (z_range : PySem.W.nsIn K mainGlobals "range" = some none)
    (z_set : PySem.W.nsIn K mainGlobals "set" = some none)
    (z_sorted : PySem.W.nsIn K mainGlobals "sorted" = some none)
    (z_str : PySem.W.nsIn K mainGlobals "str" = some none)
    (z_tuple : PySem.W.nsIn K mainGlobals "tuple" = some none)
    (z_zip : PySem.W.nsIn K mainGlobals "zip" = some none)
    {t_LEFT : Tok} (y_LEFT : PySem.W.nsIn K mainGlobals "LEFT" = some (some (.str "left" t_LEFT)))
    {t_RIGHT : Tok} (y_RIGHT : PySem.W.nsIn K mainGlobals "RIGHT" = some (some (.str "right" t_RIGHT)))
    {cc_NoStone : Addr} (q_NoStone : PySem.W.nsIn K mainGlobals "NoStone" = some (some (.ref cc_NoStone)))
    {cc_NoIndex : Addr} (q_NoIndex : PySem.W.nsIn K mainGlobals "NoIndex" = some (some (.ref cc_NoIndex)))
    {cc_FallError : Addr} (q_FallError : PySem.W.nsIn K mainGlobals "FallError" = some (some (.ref cc_FallError)))
    (gget : PySem.W.specialIn K (.builtin "object.__class__") "__get__" = some (some (.builtin "getset_descriptor.__get__")))
    (gtak : PySem.W.takesIn K (.builtin "object.__class__") = some true)
    {nm_NoStone qn_NoStone : Str} {N_NoStone : Addr} {bs_NoStone : List Value} {sn_NoStone : List Str} {sb_NoStone : List Value} {ab_NoStone : Bool} {co_NoStone : Option Bool} {dd_NoStone : Option Addr} {m0_NoStone m1_NoStone m2_NoStone m3_NoStone m5_NoStone : Option Value}
    (xl_NoStone : K.lookup cc_NoStone = some (PySem.excClassObj nm_NoStone qn_NoStone cc_NoStone N_NoStone bs_NoStone [.ref cc_FallError, .type "ValueError", .type "Exception", .type "BaseException", .type "object"] true sn_NoStone sb_NoStone ab_NoStone co_NoStone dd_NoStone m0_NoStone m1_NoStone m2_NoStone m3_NoStone m5_NoStone "ValueError.__new__"))
    (sa_NoStone : PySem.W.findIn K (.ref cc_NoStone) "__setattr__" = some (some (.builtin "object.__setattr__")))
    (ga_NoStone : PySem.W.findIn K (.ref cc_NoStone) "__getattribute__" = some (some (.builtin "BaseException.__getattribute__")))
    (gg_NoStone : PySem.W.findIn K (.ref cc_NoStone) "__getattr__" = some none)
    (cl_NoStone : PySem.W.findIn K (.ref cc_NoStone) "__class__" = some (some (.builtin "object.__class__")))
    (kc_NoStone : PySem.W.keepIn K (.ref cc_NoStone) = true)
    (be_NoStone : PySem.W.subIn K (.ref cc_NoStone) (.type "BaseException") = some true)
    (ty_NoStone : PySem.W.typeIn K (.ref cc_NoStone) = some (.type "type"))
    (hd_NoStone : PySem.W.hasDictIn K cc_NoStone = true)
    (ob_NoStone : PySem.W.mroIn K cc_NoStone (.type "object") = some true)
    (ve_NoStone : PySem.W.subIn K (.ref cc_NoStone) (.type "ValueError") = some true)
    (se_NoStone : PySem.W.subIn K (.ref cc_NoStone) (.ref cc_NoStone) = some true)
    (nf_NoStone_value : PySem.W.findIn K (.ref cc_NoStone) "value" = some none)
    {fi_NoStone : Addr} {iod_NoStone ian_NoStone : Option Addr} {isl_NoStone : Array (Option Value)} {ioc_NoStone ikV_NoStone idc_NoStone ipm_NoStone icd_NoStone ict_NoStone : Value}
    (i_NoStone_a : PySem.W.findIn K (.ref cc_NoStone) "__init__" = some (some (.ref fi_NoStone)))
    (i_NoStone_t : PySem.W.typeIn K (.ref fi_NoStone) = some (.type "function"))
    (i_NoStone_l : K.lookup fi_NoStone = some ⟨ioc_NoStone, iod_NoStone, .func (PySem.W.fnOf "__init__" "NoStone.__init__" (defArgs i_NoStone) (defBody i_NoStone) (defScope i_NoStone) .none ikV_NoStone idc_NoStone ipm_NoStone ian_NoStone icd_NoStone ict_NoStone), isl_NoStone⟩)
    (i_NoStone_c : PySem.W.codeIn K icd_NoStone "NoStone.__init__" = true)
    (i_NoStone_k : PySem.W.keepIn K (.ref fi_NoStone) = true)
    {nm_NoIndex qn_NoIndex : Str} {N_NoIndex : Addr} {bs_NoIndex : List Value} {sn_NoIndex : List Str} {sb_NoIndex : List Value} {ab_NoIndex : Bool} {co_NoIndex : Option Bool} {dd_NoIndex : Option Addr} {m0_NoIndex m1_NoIndex m2_NoIndex m3_NoIndex m5_NoIndex : Option Value}
    (xl_NoIndex : K.lookup cc_NoIndex = some (PySem.excClassObj nm_NoIndex qn_NoIndex cc_NoIndex N_NoIndex bs_NoIndex [.ref cc_FallError, .type "ValueError", .type "Exception", .type "BaseException", .type "object"] true sn_NoIndex sb_NoIndex ab_NoIndex co_NoIndex dd_NoIndex m0_NoIndex m1_NoIndex m2_NoIndex m3_NoIndex m5_NoIndex "ValueError.__new__"))
    (sa_NoIndex : PySem.W.findIn K (.ref cc_NoIndex) "__setattr__" = some (some (.builtin "object.__setattr__")))
    (ga_NoIndex : PySem.W.findIn K (.ref cc_NoIndex) "__getattribute__" = some (some (.builtin "BaseException.__getattribute__")))
    (gg_NoIndex : PySem.W.findIn K (.ref cc_NoIndex) "__getattr__" = some none)
    (cl_NoIndex : PySem.W.findIn K (.ref cc_NoIndex) "__class__" = some (some (.builtin "object.__class__")))
    (kc_NoIndex : PySem.W.keepIn K (.ref cc_NoIndex) = true)
    (be_NoIndex : PySem.W.subIn K (.ref cc_NoIndex) (.type "BaseException") = some true)
    (ty_NoIndex : PySem.W.typeIn K (.ref cc_NoIndex) = some (.type "type"))
    (hd_NoIndex : PySem.W.hasDictIn K cc_NoIndex = true)
    (ob_NoIndex : PySem.W.mroIn K cc_NoIndex (.type "object") = some true)
    (ve_NoIndex : PySem.W.subIn K (.ref cc_NoIndex) (.type "ValueError") = some true)
    (se_NoIndex : PySem.W.subIn K (.ref cc_NoIndex) (.ref cc_NoIndex) = some true)
    (nf_NoIndex_index : PySem.W.findIn K (.ref cc_NoIndex) "index" = some none)
    {fi_NoIndex : Addr} {iod_NoIndex ian_NoIndex : Option Addr} {isl_NoIndex : Array (Option Value)} {ioc_NoIndex ikV_NoIndex idc_NoIndex ipm_NoIndex icd_NoIndex ict_NoIndex : Value}
    (i_NoIndex_a : PySem.W.findIn K (.ref cc_NoIndex) "__init__" = some (some (.ref fi_NoIndex)))
    (i_NoIndex_t : PySem.W.typeIn K (.ref fi_NoIndex) = some (.type "function"))
    (i_NoIndex_l : K.lookup fi_NoIndex = some ⟨ioc_NoIndex, iod_NoIndex, .func (PySem.W.fnOf "__init__" "NoIndex.__init__" (defArgs i_NoIndex) (defBody i_NoIndex) (defScope i_NoIndex) .none ikV_NoIndex idc_NoIndex ipm_NoIndex ian_NoIndex icd_NoIndex ict_NoIndex), isl_NoIndex⟩)
    (i_NoIndex_c : PySem.W.codeIn K icd_NoIndex "NoIndex.__init__" = true)
    (i_NoIndex_k : PySem.W.keepIn K (.ref fi_NoIndex) = true) :
    ∃ fd : FuncData, (∀ (s : Shared) (v : Value), BindsTo s fd ⟨[v], []⟩ [("_law_script", v)]) ∧ ∀ base : Heap, K.In base → base.Ns mainGlobals mg → FnG l.prog w K mg base 8 fa fd ["_law_script"] (spLaw K) := by
  have e := hfa.symm.trans (PySem.W.mg_of X G a26)
  cases e
  have k_NoStone : clsA mg "NoStone" = cc_NoStone := clsA_of (PySem.W.mg_of X G q_NoStone)
  have k_NoIndex : clsA mg "NoIndex" = cc_NoIndex := clsA_of (PySem.W.mg_of X G q_NoIndex)
  have k_FallError : clsA mg "FallError" = cc_FallError := clsA_of (PySem.W.mg_of X G q_FallError)
  have E_NoStone : PySem.W.EClass K cc_NoStone := ⟨ga_NoStone, gg_NoStone, be_NoStone, hd_NoStone, cl_NoStone, gget, gtak, ob_NoStone⟩
  have E_NoIndex : PySem.W.EClass K cc_NoIndex := ⟨ga_NoIndex, gg_NoIndex, be_NoIndex, hd_NoIndex, cl_NoIndex, gget, gtak, ob_NoIndex⟩
  have T : Txt K mg := ⟨PySem.W.mg_none_of X G z_abs, PySem.W.mg_none_of X G z_all, PySem.W.mg_none_of X G z_any, PySem.W.mg_none_of X G z_bool, PySem.W.mg_none_of X G z_enumerate, PySem.W.mg_none_of X G z_int, PySem.W.mg_none_of X G z_isinstance, PySem.W.mg_none_of X G z_len, PySem.W.mg_none_of X G z_list, PySem.W.mg_none_of X G z_max, PySem.W.mg_none_of X G z_min, PySem.W.mg_none_of X G z_range, PySem.W.mg_none_of X G z_set, PySem.W.mg_none_of X G z_sorted, PySem.W.mg_none_of X G z_str, PySem.W.mg_none_of X G z_tuple, PySem.W.mg_none_of X G z_zip, ⟨_, PySem.W.mg_of X G y_LEFT⟩, ⟨_, PySem.W.mg_of X G y_RIGHT⟩⟩
  exact ⟨PySem.W.fnOf "law" "law" (defArgs s_law) (defBody s_law) (defScope s_law) .none kV26 dc26 pm26 an26 cd26 ct26, fun s v => .of_eq rfl, fun base _ _ => by
    have V_NoStone := fun_mk (st := i_NoStone) i_NoStone_l i_NoStone_c i_NoStone_k
    have Y_NoStone := V_NoStone.binds (ps := ["self", "value"]) fun _ _ _ _ _ _ us hl => match us, hl with | [_, _], _ => rfl
    have O_NoStone : OexC K cc_NoStone := ⟨⟨nm_NoStone, qn_NoStone, N_NoStone, bs_NoStone, _, sn_NoStone, sb_NoStone, ab_NoStone, co_NoStone, dd_NoStone, m0_NoStone, m1_NoStone, m2_NoStone, m3_NoStone, m5_NoStone, xl_NoStone, rfl⟩, sa_NoStone, be_NoStone, ty_NoStone, kc_NoStone⟩
    have X_NoStone : XMk l.prog w K mg base "NoStone" "value" := ⟨cc_NoStone, fi_NoStone, _, _, PySem.W.mg_of X G q_NoStone, O_NoStone, i_NoStone_a, i_NoStone_t, ini_NoStone V_NoStone O_NoStone nf_NoStone_value, Y_NoStone⟩
    have V_NoIndex := fun_mk (st := i_NoIndex) i_NoIndex_l i_NoIndex_c i_NoIndex_k
    have Y_NoIndex := V_NoIndex.binds (ps := ["self", "index"]) fun _ _ _ _ _ _ us hl => match us, hl with | [_, _], _ => rfl
    have O_NoIndex : OexC K cc_NoIndex := ⟨⟨nm_NoIndex, qn_NoIndex, N_NoIndex, bs_NoIndex, _, sn_NoIndex, sb_NoIndex, ab_NoIndex, co_NoIndex, dd_NoIndex, m0_NoIndex, m1_NoIndex, m2_NoIndex, m3_NoIndex, m5_NoIndex, xl_NoIndex, rfl⟩, sa_NoIndex, be_NoIndex, ty_NoIndex, kc_NoIndex⟩
    have X_NoIndex : XMk l.prog w K mg base "NoIndex" "index" := ⟨cc_NoIndex, fi_NoIndex, _, _, PySem.W.mg_of X G q_NoIndex, O_NoIndex, i_NoIndex_a, i_NoIndex_t, ini_NoIndex V_NoIndex O_NoIndex nf_NoIndex_index, Y_NoIndex⟩
    have U0 := fun_mk (st := s_is_integer) l0 c0 k0
    have B0 := U0.binds (ps := ["value", "low", "high"]) fun _ _ _ _ _ _ us hl => match us, hl with | [_, _, _], _ => rfl
    have F_is_integer := d_is_integer (P := l.prog) (w := w) (base := base) T (PySem.W.mg_of X G a0) U0 B0 
    have U1 := fun_mk (st := s_right_ends) l1 c1 k1
    have B1 := U1.binds (ps := ["row"]) fun _ _ _ _ _ _ us hl => match us, hl with | [_], _ => rfl
    have F_right_ends := d_right_ends (P := l.prog) (w := w) (base := base) T (PySem.W.mg_of X G a1) U1 B1 
    have U2 := fun_mk (st := s_mirrored) l2 c2 k2
    have B2 := U2.binds (ps := ["row"]) fun _ _ _ _ _ _ us hl => match us, hl with | [_], _ => rfl
    have F_mirrored := d_mirrored (P := l.prog) (w := w) (base := base) T (PySem.W.mg_of X G a2) U2 B2 
    have U3 := fun_mk (st := s_stretches) l3 c3 k3
    have B3 := U3.binds (ps := ["row"]) fun _ _ _ _ _ _ us hl => match us, hl with | [_], _ => rfl
    have F_stretches := d_stretches (P := l.prog) (w := w) (base := base) T (PySem.W.mg_of X G a3) U3 B3 F_right_ends F_mirrored
    have U4 := fun_mk (st := s_spans_of) l4 c4 k4
    have B4 := U4.binds (ps := ["row"]) fun _ _ _ _ _ _ us hl => match us, hl with | [_], _ => rfl
    have F_spans_of := d_spans_of (P := l.prog) (w := w) (base := base) T (PySem.W.mg_of X G a4) U4 B4 F_stretches
    have U5 := fun_mk (st := s_far_ends) l5 c5 k5
    have B5 := U5.binds (ps := ["row"]) fun _ _ _ _ _ _ us hl => match us, hl with | [_], _ => rfl
    have F_far_ends := d_far_ends (P := l.prog) (w := w) (base := base) T (PySem.W.mg_of X G a5) U5 B5 F_spans_of
    have U6 := fun_mk (st := s_are_apart) l6 c6 k6
    have B6 := U6.binds (ps := ["row", "value"]) fun _ _ _ _ _ _ us hl => match us, hl with | [_, _], _ => rfl
    have F_are_apart := d_are_apart (P := l.prog) (w := w) (base := base) T (PySem.W.mg_of X G a6) U6 B6 F_spans_of F_is_integer
    have U7 := fun_mk (st := s_fewest_for) l7 c7 k7
    have B7 : ∀ us rest : List Value, us.length = (["row"] : List Str).length → bindArgs (PySem.W.fnOf "fewest_for" "fewest_for" (defArgs s_fewest_for) (defBody s_fewest_for) (defScope s_fewest_for) .none kV7 dc7 pm7 an7 cd7 ct7) ⟨us ++ rest, []⟩ = (newTuple rest >>= fun t => pure ((["row"] : List Str).zip us ++ [(("stones" : Str), t)])) := StX.bind_star1 (B := fun zs => bindArgs (PySem.W.fnOf "fewest_for" "fewest_for" (defArgs s_fewest_for) (defBody s_fewest_for) (defScope s_fewest_for) .none kV7 dc7 pm7 an7 cd7 ct7) ⟨zs, []⟩) (fun a => rfl) (fun a r rs => rfl)
    have F_fewest_for := d_fewest_for (P := l.prog) (w := w) (base := base) T (PySem.W.mg_of X G a7) U7 B7 F_far_ends F_is_integer X_NoStone
    have U8 := fun_mk (st := s_cover_certificate) l8 c8 k8
    have B8 := U8.binds (ps := ["row"]) fun _ _ _ _ _ _ us hl => match us, hl with | [_], _ => rfl
    have F_cover_certificate := d_cover_certificate (P := l.prog) (w := w) (base := base) T (PySem.W.mg_of X G a8) U8 B8 F_far_ends
    have U9 := fun_mk (st := s_fewest_pushes) l9 c9 k9
    have B9 := U9.binds (ps := ["row"]) fun _ _ _ _ _ _ us hl => match us, hl with | [_], _ => rfl
    have F_fewest_pushes := d_fewest_pushes (P := l.prog) (w := w) (base := base) T (PySem.W.mg_of X G a9) U9 B9 F_cover_certificate
    have U10 := fun_mk (st := s_check_index) l10 c10 k10
    have B10 := U10.binds (ps := ["value", "many"]) fun _ _ _ _ _ _ us hl => match us, hl with | [_, _], _ => rfl
    have F_check_index := d_check_index (P := l.prog) (w := w) (base := base) T (PySem.W.mg_of X G a10) U10 B10 F_is_integer X_NoIndex
    have U11 := fun_mk (st := s_best_from) l11 c11 k11
    have B11 := U11.binds (ps := ["row", "many"]) fun _ _ _ _ _ _ us hl => match us, hl with | [_, _], _ => rfl
    have F_best_from := d_best_from (P := l.prog) (w := w) (base := base) T (PySem.W.mg_of X G a11) U11 B11 F_far_ends
    have U12 := fun_mk (st := s_most_felled) l12 c12 k12
    have B12 := U12.binds (ps := ["row", "many"]) fun _ _ _ _ _ _ us hl => match us, hl with | [_, _], _ => rfl
    have F_most_felled := d_most_felled (P := l.prog) (w := w) (base := base) T (PySem.W.mg_of X G a12) U12 B12 F_check_index F_best_from F_far_ends
    have U13 := fun_mk (st := s__law_opened) l13 c13 k13
    have B13 := U13.binds (ps := ["_law_script"]) fun _ _ _ _ _ _ us hl => match us, hl with | [_], _ => rfl
    have F__law_opened := d__law_opened (P := l.prog) (w := w) (base := base) T (PySem.W.mg_of X G a13) U13 B13 
    have U14 := fun_mk (st := s__law_take) l14 c14 k14
    have B14 := U14.binds (ps := ["_law_bag", "_law_many"]) fun _ _ _ _ _ _ us hl => match us, hl with | [_, _], _ => rfl
    have F__law_take := d__law_take (P := l.prog) (w := w) (base := base) T (PySem.W.mg_of X G a14) U14 B14 
    have U15 := fun_mk (st := s__law_stones) l15 c15 k15
    have B15 := U15.binds (ps := ["_law_bag", "_law_bound", "_law_wide"]) fun _ _ _ _ _ _ us hl => match us, hl with | [_, _, _], _ => rfl
    have F__law_stones := d__law_stones (P := l.prog) (w := w) (base := base) T (PySem.W.mg_of X G a15) U15 B15 F__law_take
    have U16 := fun_mk (st := s__law_right) l16 c16 k16
    have B16 := U16.binds (ps := ["_law_row", "_law_stone"]) fun _ _ _ _ _ _ us hl => match us, hl with | [_, _], _ => rfl
    have F__law_right := d__law_right (P := l.prog) (w := w) (base := base) T (PySem.W.mg_of X G a16) U16 B16 
    have U17 := fun_mk (st := s__law_left) l17 c17 k17
    have B17 := U17.binds (ps := ["_law_row", "_law_stone"]) fun _ _ _ _ _ _ us hl => match us, hl with | [_, _], _ => rfl
    have F__law_left := d__law_left (P := l.prog) (w := w) (base := base) T (PySem.W.mg_of X G a17) U17 B17 
    have U18 := fun_mk (st := s__law_pushes) l18 c18 k18
    have B18 := U18.binds (ps := ["_law_row"]) fun _ _ _ _ _ _ us hl => match us, hl with | [_], _ => rfl
    have F__law_pushes := d__law_pushes (P := l.prog) (w := w) (base := base) T (PySem.W.mg_of X G a18) U18 B18 
    have U19 := fun_mk (st := s__law_ends) l19 c19 k19
    have B19 := U19.binds (ps := ["_law_row"]) fun _ _ _ _ _ _ us hl => match us, hl with | [_], _ => rfl
    have F__law_ends := d__law_ends (P := l.prog) (w := w) (base := base) T (PySem.W.mg_of X G a19) U19 B19 F__law_left F__law_right
    have U20 := fun_mk (st := s__law_felled) l20 c20 k20
    have B20 := U20.binds (ps := ["_law_row", "_law_cover"]) fun _ _ _ _ _ _ us hl => match us, hl with | [_, _], _ => rfl
    have F__law_felled := d__law_felled (P := l.prog) (w := w) (base := base) T (PySem.W.mg_of X G a20) U20 B20 F__law_pushes F__law_ends
    have U21 := fun_mk (st := s__law_same) l21 c21 k21
    have B21 := U21.binds (ps := ["_law_one", "_law_other"]) fun _ _ _ _ _ _ us hl => match us, hl with | [_, _], _ => rfl
    have F__law_same := d__law_same (P := l.prog) (w := w) (base := base) T (PySem.W.mg_of X G a21) U21 B21 
    have U22 := fun_mk (st := s__law_best) l22 c22 k22
    have B22 := U22.binds (ps := ["_law_ends_here", "_law_many", "_law_bound"]) fun _ _ _ _ _ _ us hl => match us, hl with | [_, _, _], _ => rfl
    have F__law_best := d__law_best (P := l.prog) (w := w) (base := base) T (PySem.W.mg_of X G a22) U22 B22 
    have U23 := fun_mk (st := s__law_growing_right) l23 c23 k23
    have B23 := U23.binds (ps := ["_law_row", "_law_numbers"]) fun _ _ _ _ _ _ us hl => match us, hl with | [_, _], _ => rfl
    have F__law_growing_right := d__law_growing_right (P := l.prog) (w := w) (base := base) T (PySem.W.mg_of X G a23) U23 B23 F__law_best F__law_ends F_most_felled F__law_same F__law_felled
    have U24 := fun_mk (st := s__law_needed) l24 c24 k24
    have B24 := U24.binds (ps := ["_law_row", "_law_some"]) fun _ _ _ _ _ _ us hl => match us, hl with | [_, _], _ => rfl
    have F__law_needed := d__law_needed (P := l.prog) (w := w) (base := base) T (PySem.W.mg_of X G a24) U24 B24 F__law_ends
    have U25 := fun_mk (st := s__law_some_right) l25 c25 k25
    have B25 := U25.binds (ps := ["_law_bag", "_law_row"]) fun _ _ _ _ _ _ us hl => match us, hl with | [_, _], _ => rfl
    have F__law_some_right := d__law_some_right (P := l.prog) (w := w) (base := base) T (PySem.W.mg_of X G a25) U25 B25 F__law_take F_fewest_for F__law_needed F__law_same F_fewest_pushes F_are_apart
    have U26 := fun_mk (st := s_law) l26 c26 k26
    exact d_law T U26 F__law_opened F__law_stones F_cover_certificate F__law_growing_right F__law_some_right F_fewest_for F_fewest_pushes F__law_take⟩
end Lk36
open PySem PySem.W PyProof.Rows in
set_option maxRecDepth 100000 in
set_option maxHeartbeats 0 in
theorem PySem.Challenge.cw_toppleline_k36_whole_some_stones_and_pus_holds : PySem.Challenge.rw_toppleline_k36_whole_some_stones_and_pus.Holds := by
  w_on; o_law; k_head; (case hw => w_witness2)
  k_fill
  refine DL.walkG (l := PySem.Challenge.rw_toppleline_k36_whole_some_stones_and_pus) (k := 8) (x := "_law_script") (sp := fun K => Lk36.spLaw K) rfl rfl ⟨rfl, by decide, by decide⟩ (fun w h Y => PySem.W.kIn_of Y) ?F (fun K H a ns hl hO hS => Lk36.law_ok hl hS)
  case F =>
    intro w mg fa h KX G hmg
    refine' Lk36.all_mk KX G hmg ?a0 ?l0 ?c0 ?k0 ?a1 ?l1 ?c1 ?k1 ?a2 ?l2 ?c2 ?k2 ?a3 ?l3 ?c3 ?k3 ?a4 ?l4 ?c4 ?k4 ?a5 ?l5 ?c5 ?k5 ?a6 ?l6 ?c6 ?k6 ?a7 ?l7 ?c7 ?k7 ?a8 ?l8 ?c8 ?k8 ?a9 ?l9 ?c9 ?k9 ?a10 ?l10 ?c10 ?k10 ?a11 ?l11 ?c11 ?k11 ?a12 ?l12 ?c12 ?k12 ?a13 ?l13 ?c13 ?k13 ?a14 ?l14 ?c14 ?k14 ?a15 ?l15 ?c15 ?k15 ?a16 ?l16 ?c16 ?k16 ?a17 ?l17 ?c17 ?k17 ?a18 ?l18 ?c18 ?k18 ?a19 ?l19 ?c19 ?k19 ?a20 ?l20 ?c20 ?k20 ?a21 ?l21 ?c21 ?k21 ?a22 ?l22 ?c22 ?k22 ?a23 ?l23 ?c23 ?k23 ?a24 ?l24 ?c24 ?k24 ?a25 ?l25 ?c25 ?k25 ?a26 ?l26 ?c26 ?k26 ?z_abs ?z_all ?z_any ?z_bool ?z_enumerate ?z_int ?z_isinstance ?z_len ?z_list ?z_max ?z_min ?z_range ?z_set ?z_sorted ?z_str ?z_tuple ?z_zip ?y_LEFT ?y_RIGHT ?q_NoStone ?q_NoIndex ?q_FallError ?gget ?gtak ?xl_NoStone ?sa_NoStone ?ga_NoStone ?gg_NoStone ?cl_NoStone ?kc_NoStone ?be_NoStone ?ty_NoStone ?hd_NoStone ?ob_NoStone ?ve_NoStone ?se_NoStone ?nf_NoStone_value ?i_NoStone_a ?i_NoStone_t ?i_NoStone_l ?i_NoStone_c ?i_NoStone_k ?xl_NoIndex ?sa_NoIndex ?ga_NoIndex ?gg_NoIndex ?cl_NoIndex ?kc_NoIndex ?be_NoIndex ?ty_NoIndex ?hd_NoIndex ?ob_NoIndex ?ve_NoIndex ?se_NoIndex ?nf_NoIndex_index ?i_NoIndex_a ?i_NoIndex_t ?i_NoIndex_l ?i_NoIndex_c ?i_NoIndex_k
    (case a0 => k_is)
    (case l0 => k_is)
    (case c0 => k_is)
    (case k0 => k_is)
    (case a1 => k_is)
    (case l1 => k_is)
    (case c1 => k_is)
    (case k1 => k_is)
    (case a2 => k_is)
    (case l2 => k_is)
    (case c2 => k_is)
    (case k2 => k_is)
    (case a3 => k_is)
    (case l3 => k_is)
    (case c3 => k_is)
    (case k3 => k_is)
    (case a4 => k_is)
    (case l4 => k_is)
    (case c4 => k_is)
    (case k4 => k_is)
    (case a5 => k_is)
    (case l5 => k_is)
    (case c5 => k_is)
    (case k5 => k_is)
    (case a6 => k_is)
    (case l6 => k_is)
    (case c6 => k_is)
    (case k6 => k_is)
    (case a7 => k_is)
    (case l7 => k_is)
    (case c7 => k_is)
    (case k7 => k_is)
    (case a8 => k_is)
    (case l8 => k_is)
    (case c8 => k_is)
    (case k8 => k_is)
    (case a9 => k_is)
    (case l9 => k_is)
    (case c9 => k_is)
    (case k9 => k_is)
    (case a10 => k_is)
    (case l10 => k_is)
    (case c10 => k_is)
    (case k10 => k_is)
    (case a11 => k_is)
    (case l11 => k_is)
    (case c11 => k_is)
    (case k11 => k_is)
    (case a12 => k_is)
    (case l12 => k_is)
    (case c12 => k_is)
    (case k12 => k_is)
    (case a13 => k_is)
    (case l13 => k_is)
    (case c13 => k_is)
    (case k13 => k_is)
    (case a14 => k_is)
    (case l14 => k_is)
    (case c14 => k_is)
    (case k14 => k_is)
    (case a15 => k_is)
    (case l15 => k_is)
    (case c15 => k_is)
    (case k15 => k_is)
    (case a16 => k_is)
    (case l16 => k_is)
    (case c16 => k_is)
    (case k16 => k_is)
    (case a17 => k_is)
    (case l17 => k_is)
    (case c17 => k_is)
    (case k17 => k_is)
    (case a18 => k_is)
    (case l18 => k_is)
    (case c18 => k_is)
    (case k18 => k_is)
    (case a19 => k_is)
    (case l19 => k_is)
    (case c19 => k_is)
    (case k19 => k_is)
    (case a20 => k_is)
    (case l20 => k_is)
    (case c20 => k_is)
    (case k20 => k_is)
    (case a21 => k_is)
    (case l21 => k_is)
    (case c21 => k_is)
    (case k21 => k_is)
    (case a22 => k_is)
    (case l22 => k_is)
    (case c22 => k_is)
    (case k22 => k_is)
    (case a23 => k_is)
    (case l23 => k_is)
    (case c23 => k_is)
    (case k23 => k_is)
    (case a24 => k_is)
    (case l24 => k_is)
    (case c24 => k_is)
    (case k24 => k_is)
    (case a25 => k_is)
    (case l25 => k_is)
    (case c25 => k_is)
    (case k25 => k_is)
    (case a26 => k_is)
    (case l26 => k_is)
    (case c26 => k_is)
    (case k26 => k_is)
    (case z_abs => k_is)
    (case z_all => k_is)
    (case z_any => k_is)
    (case z_bool => k_is)
    (case z_enumerate => k_is)
    (case z_int => k_is)
    (case z_isinstance => k_is)
    (case z_len => k_is)
    (case z_list => k_is)
    (case z_max => k_is)
    (case z_min => k_is)
    (case z_range => k_is)
    (case z_set => k_is)
    (case z_sorted => k_is)
    (case z_str => k_is)
    (case z_tuple => k_is)
    (case z_zip => k_is)
    (case y_LEFT => k_is)
    (case y_RIGHT => k_is)
    (case q_NoStone => k_is)
    (case q_NoIndex => k_is)
    (case q_FallError => k_is)
    (case gget => k_is)
    (case gtak => k_is)
    (case xl_NoStone => k_is)
    (case sa_NoStone => k_is)
    (case ga_NoStone => k_is)
    (case gg_NoStone => k_is)
    (case cl_NoStone => k_is)
    (case kc_NoStone => k_is)
    (case be_NoStone => k_is)
    (case ty_NoStone => k_is)
    (case hd_NoStone => k_is)
    (case ob_NoStone => k_is)
    (case ve_NoStone => k_is)
    (case se_NoStone => k_is)
    (case nf_NoStone_value => k_is)
    (case i_NoStone_a => k_is)
    (case i_NoStone_t => k_is)
    (case i_NoStone_l => k_is)
    (case i_NoStone_c => k_is)
    (case i_NoStone_k => k_is)
    (case xl_NoIndex => k_is)
    (case sa_NoIndex => k_is)
    (case ga_NoIndex => k_is)
    (case gg_NoIndex => k_is)
    (case cl_NoIndex => k_is)
    (case kc_NoIndex => k_is)
    (case be_NoIndex => k_is)
    (case ty_NoIndex => k_is)
    (case hd_NoIndex => k_is)
    (case ob_NoIndex => k_is)
    (case ve_NoIndex => k_is)
    (case se_NoIndex => k_is)
    (case nf_NoIndex_index => k_is)
    (case i_NoIndex_a => k_is)
    (case i_NoIndex_t => k_is)
    (case i_NoIndex_l => k_is)
    (case i_NoIndex_c => k_is)
    (case i_NoIndex_k => k_is)
